import PyProof.Rows.All
import Wide.All
import OpenK.AllK
import Wide.FinOn
import PyProof.EqAt
import PyProof.EqKinds
import PyProof.TupleCall
import HandS.ForMost
import HandS.ForExc
import HandS.CallSlots
import HandS.TupAny
import HandS.TupMul
import HandS.IsInst
import HandS.Deep
import KE.SortData
import KE.GoesEnum
import HandS.Walk
import HandS.Zip
import HandS.Style
import HandS.Lambda
import HandS.SetTxt0
import HandS.Set
import HandS.Strs
import HandS.Small
import HandS.HeadHook2
import HandS.HeadEnd
import HandS.Words
import KE.KStateDown
import HandS.Head0
import HandS.Head1
import HandS.Head2
import PySem.Challenge.RW_makeso_k02_files_texts_and_missing_notic
set_option Elab.async false
set_option linter.all false
set_option maxRecDepth 100000
set_option maxHeartbeats 1000000
/-! MP1: a small Python: values, the heap of changeable objects, what represents them. -/
namespace MP
open PySem PySem.Spec PyProof.Rows L2

/-! ### values -/
inductive W where
  | non | bl (b : Bool) | int (i : Int) | str (s : Str)
  | tup (ws : List W) | lst (ws : List W) | dct (kvs : List (Key × W))
  | ref (i : Nat)
  | scr (ns : List Int)

inductive O where
  | lst (ws : List W) | dct (kvs : List (Key × W)) | ins (c : Str) (fs : List (Str × W)) | dead

abbrev Hq := List O
abbrev Sto := List (Option W)
abbrev Rho := List (Option Addr)

inductive R (α : Type) where
  | ok (a : α) (h : Hq) | exc (c : Str) (h : Hq) | bad

def R.bind {α β : Type} (r : R α) (f : α → Hq → R β) : R β := match r with
  | .ok a h => f a h
  | .exc c h => .exc c h
  | .bad => .bad

/-! ### what represents a value -/
def NotTr (ρ : Rho) (a : Addr) : Prop := ∀ i : Nat, ρ[i]? ≠ some (some a)

section
variable (K : PySem.W.Frag) (H : Hp) (ρ : Rho)
mutual
inductive RW : W → V → Prop
  | non : RW .non .non
  | bl (b : Bool) : RW (.bl b) (.bl b)
  | int (i : Int) : RW (.int i) (.int i)
  | str (x : Str) : RW (.str x) (.str x)
  | tup {ws : List W} {a : Addr} {vs : List V} : H a = some (.tup vs) → RWs ws vs → RW (.tup ws) (.ref a)
  | lst {ws : List W} {a : Addr} {vs : List V} : H a = some (.lst vs) → NotTr ρ a → RWs ws vs → RW (.lst ws) (.ref a)
  | dct {kvs : List (Key × W)} {a : Addr} {kus : List (Key × V)} : H a = some (.dK kus) → NotTr ρ a → RWk kvs kus → RW (.dct kvs) (.ref a)
  | ref {i : Nat} {o : Option Addr} {v : V} : ρ[i]? = some o → (∀ a, o = some a → v = .ref a) → RW (.ref i) v
  | scrF {ns : List Int} {a : Addr} {o : Obj} : H a = some (.frz o (.lst (ns.map V.int))) → NotTr ρ a → RW (.scr ns) (.ref a)
  | scrK {ns : List Int} {a : Addr} : (∃ (o : Obj) (its : Array Value) (n : Nat), K.lookup a = some o ∧ o.cls = .type "list" ∧ o.dict = none ∧ o.data = .seq its n ∧ its.size ≤ sizeLine ∧ Vals (ns.map V.int) its.toList) → RW (.scr ns) (.ref a)
inductive RWs : List W → List V → Prop
  | nil : RWs [] []
  | cons {w : W} {ws : List W} {v : V} {vs : List V} : RW w v → RWs ws vs → RWs (w :: ws) (v :: vs)
inductive RWk : List (Key × W) → List (Key × V) → Prop
  | nil : RWk [] []
  | cons {k : Key} {w : W} {kvs : List (Key × W)} {v : V} {kus : List (Key × V)} : RW w v → RWk kvs kus → RWk ((k, w) :: kvs) ((k, v) :: kus)
end
inductive RWf : List (Str × W) → List (Str × V) → Prop
  | nil : RWf [] []
  | cons {k : Str} {w : W} {kvs : List (Str × W)} {v : V} {kus : List (Str × V)} : RW K H ρ w v → RWf kvs kus → RWf ((k, w) :: kvs) ((k, v) :: kus)
end

variable {K : PySem.W.Frag} {H H' H1 H2 : Hp} {ρ ρ' ρ1 ρ2 : Rho}

theorem RWs.length : ∀ {ws : List W} {vs : List V}, RWs K H ρ ws vs → ws.length = vs.length
  | [], _, .nil => rfl
  | _ :: _, _, .cons _ t => by simp [RWs.length t]
theorem RWk.length : ∀ {ws : List (Key × W)} {vs : List (Key × V)}, RWk K H ρ ws vs → ws.length = vs.length
  | [], _, .nil => rfl
  | _ :: _, _, .cons _ t => by simp [RWk.length t]
theorem RWs.get : ∀ {ws : List W} {vs : List V} {i : Nat} {w : W}, RWs K H ρ ws vs → ws[i]? = some w → ∃ v, vs[i]? = some v ∧ RW K H ρ w v
  | _, _, i, _, .nil, e => by simp at e
  | _, _, 0, _, .cons r _, e => by simp at e; subst e; exact ⟨_, by simp, r⟩
  | _, _, i + 1, _, .cons _ t, e => by
    obtain ⟨v, h1, h2⟩ := RWs.get (i := i) t (by simpa using e)
    exact ⟨v, by simpa using h1, h2⟩
theorem RWs.append : ∀ {ws xs : List W} {vs us : List V}, RWs K H ρ ws vs → RWs K H ρ xs us → RWs K H ρ (ws ++ xs) (vs ++ us)
  | _, _, _, _, .nil, s => s
  | _, _, _, _, .cons r t, s => .cons r (RWs.append t s)
theorem RWs.take : ∀ {ws : List W} {vs : List V} (n : Nat), RWs K H ρ ws vs → RWs K H ρ (ws.take n) (vs.take n)
  | _, _, 0, _ => by simpa using .nil
  | _, _, _ + 1, .nil => by simpa using .nil
  | _, _, n + 1, .cons r t => by simpa using .cons r (RWs.take n t)
theorem RWs.drop : ∀ {ws : List W} {vs : List V} (n : Nat), RWs K H ρ ws vs → RWs K H ρ (ws.drop n) (vs.drop n)
  | _, _, 0, h => by simpa using h
  | _, _, _ + 1, .nil => by simpa using .nil
  | _, _, n + 1, .cons r t => by simpa using RWs.drop n t
theorem RWs.set {w : W} {v : V} (r : RW K H ρ w v) : ∀ {ws : List W} {vs : List V} (i : Nat), RWs K H ρ ws vs → RWs K H ρ (ws.set i w) (vs.set i v)
  | _, _, _, .nil => by simpa using .nil
  | _, _, 0, .cons _ t => .cons r t
  | _, _, n + 1, .cons q t => .cons q (RWs.set r n t)
theorem RWs.rep {ws : List W} {vs : List V} (h : RWs K H ρ ws vs) : ∀ n : Nat, RWs K H ρ (List.replicate n ws).flatten (List.replicate n vs).flatten
  | 0 => by simpa using .nil
  | n + 1 => by
    rw [List.replicate_succ, List.replicate_succ, List.flatten_cons, List.flatten_cons]
    exact h.append (RWs.rep h n)

/-! ### how the state grows -/
/-- what is not tracked stays; tracked numbers stay or are let go; new tracked addresses were free -/
structure Ext (H : Hp) (ρ : Rho) (H' : Hp) (ρ' : Rho) : Prop where
  len : ρ.length ≤ ρ'.length
  old : ∀ (i : Nat) (a : Addr), i < ρ.length → ρ'[i]? = some (some a) → ρ[i]? = some (some a)
  new : ∀ (i : Nat) (a : Addr), ρ.length ≤ i → ρ'[i]? = some (some a) → H a = none
  keep : ∀ a o, H a = some o → NotTr ρ a → H' a = some o
  stay : ∀ a, H a ≠ none → H' a ≠ none

theorem Ext.refl : Ext H ρ H ρ := ⟨Nat.le_refl _, fun _ _ _ h => h, fun i a hi h => by
  have := (List.getElem?_eq_some_iff.mp h).1
  omega, fun _ _ h _ => h, fun _ h => h⟩
theorem Ext.notTr (e : Ext H ρ H' ρ') {a : Addr} {o : HO} (h : H a = some o) (n : NotTr ρ a) : NotTr ρ' a := fun i hi => by
  by_cases hl : i < ρ.length
  · exact n i (e.old i a hl hi)
  · have := e.new i a (by omega) hi
    rw [h] at this; cases this
theorem Ext.trans (e : Ext H ρ H1 ρ1) (f : Ext H1 ρ1 H2 ρ2) : Ext H ρ H2 ρ2 where
  len := Nat.le_trans e.len f.len
  old := fun i a hi h => e.old i a hi (f.old i a (Nat.lt_of_lt_of_le hi e.len) h)
  new := fun i a hi h => by
    by_cases hl : i < ρ1.length
    · exact e.new i a hi (f.old i a hl h)
    · have q := f.new i a (by omega) h
      cases z : H a with
      | none => rfl
      | some o => exact absurd q (e.stay a (by rw [z]; exact fun x => nomatch x))
  keep := fun a o h n => f.keep a o (e.keep a o h n) (e.notTr h n)
  stay := fun a h => f.stay a (e.stay a h)

/-- tuples are not tracked (of Rep) -/
def TupOk (H : Hp) (ρ : Rho) : Prop := ∀ (i : Nat) (a : Addr), ρ[i]? = some (some a) → ∀ vs, H a ≠ some (.tup vs)
theorem TupOk.not (t : TupOk H ρ) {a : Addr} {vs : List V} (h : H a = some (.tup vs)) : NotTr ρ a := fun i hi => t i a hi vs h

mutual
theorem RW.mono (e : Ext H ρ H' ρ') (t : TupOk H ρ) : ∀ {w : W} {v : V}, RW K H ρ w v → RW K H' ρ' w v
  | _, _, .non => .non
  | _, _, .bl b => .bl b
  | _, _, .int i => .int i
  | _, _, .str x => .str x
  | _, _, .tup h r => .tup (e.keep _ _ h (t.not h)) (RWs.mono e t r)
  | _, _, .lst h n r => .lst (e.keep _ _ h n) (e.notTr h n) (RWs.mono e t r)
  | _, _, .dct h n r => .dct (e.keep _ _ h n) (e.notTr h n) (RWk.mono e t r)
  | _, v, @RW.ref _ _ _ i o _ h hv => by
    have hl := (List.getElem?_eq_some_iff.mp h).1
    have hl' : i < ρ'.length := Nat.lt_of_lt_of_le hl e.len
    refine .ref (o := ρ'[i]) (List.getElem?_eq_getElem hl') fun a ha => ?_
    have q : ρ'[i]? = some (some a) := by rw [List.getElem?_eq_getElem hl', ha]
    have z := e.old i a hl q
    rw [h] at z
    exact hv a (Option.some.inj z)
  | _, _, .scrF h n => .scrF (e.keep _ _ h n) (e.notTr h n)
  | _, _, .scrK h => .scrK h
theorem RWs.mono (e : Ext H ρ H' ρ') (t : TupOk H ρ) : ∀ {ws : List W} {vs : List V}, RWs K H ρ ws vs → RWs K H' ρ' ws vs
  | _, _, .nil => .nil
  | _, _, .cons r s => .cons (RW.mono e t r) (RWs.mono e t s)
theorem RWk.mono (e : Ext H ρ H' ρ') (t : TupOk H ρ) : ∀ {ws : List (Key × W)} {vs : List (Key × V)}, RWk K H ρ ws vs → RWk K H' ρ' ws vs
  | _, _, .nil => .nil
  | _, _, .cons r s => .cons (RW.mono e t r) (RWk.mono e t s)
end
theorem RWf.mono (e : Ext H ρ H' ρ') (t : TupOk H ρ) : ∀ {ws : List (Str × W)} {vs : List (Str × V)}, RWf K H ρ ws vs → RWf K H' ρ' ws vs
  | _, _, .nil => .nil
  | _, _, .cons r s => .cons (RW.mono e t r) (RWf.mono e t s)
theorem RWf.lookup {f : Str} : ∀ {fs : List (Str × W)} {us : List (Str × V)}, RWf K H ρ fs us → ∀ {w : W}, fs.lookup f = some w → ∃ v, us.lookup f = some v ∧ RW K H ρ w v
  | _, _, .nil, _, h => by simp at h
  | (k, w0) :: fs, _, .cons (v := v) (kus := kus) r t, w, h => by
    rw [List.lookup_cons] at h ⊢
    cases hb : f == k with
    | true => rw [hb] at h; simp at h; subst h; exact ⟨_, rfl, r⟩
    | false => rw [hb] at h; exact RWf.lookup t h
theorem RWf.lookup_none {f : Str} : ∀ {fs : List (Str × W)} {us : List (Str × V)}, RWf K H ρ fs us → fs.lookup f = none → us.lookup f = none
  | _, _, .nil, _ => rfl
  | (k, w0) :: fs, _, .cons r t, h => by
    rw [List.lookup_cons] at h ⊢
    cases hb : f == k with
    | true => rw [hb] at h; cases h
    | false => rw [hb] at h; exact RWf.lookup_none t h
def putW (f : Str) (w : W) : List (Str × W) → List (Str × W)
  | [] => [(f, w)]
  | (g, u) :: r => if g = f then (g, w) :: r else (g, u) :: putW f w r
theorem RWf.length : ∀ {fs : List (Str × W)} {us : List (Str × V)}, RWf K H ρ fs us → fs.length = us.length
  | _, _, .nil => rfl
  | _, _, .cons _ t => by simp [RWf.length t]

/-! ### the heap -/
def RO (K : PySem.W.Frag) (cA : Str → Addr) (H : Hp) (ρ : Rho) (a : Addr) : O → Prop
  | .lst ws => ∃ vs, H a = some (.lst vs) ∧ RWs K H ρ ws vs
  | .dct kvs => ∃ kus, H a = some (.dK kus) ∧ RWk K H ρ kvs kus
  | .ins c fs => ∃ dx fus, H a = some (.ins (cA c) dx fus) ∧ RWf K H ρ fs fus
  | .dead => False
structure Rep (K : PySem.W.Frag) (cA : Str → Addr) (ρ : Rho) (h : Hq) (H : Hp) : Prop where
  len : ρ.length = h.length
  obj : ∀ (i : Nat) (o : O) (a : Addr), h[i]? = some o → ρ[i]? = some (some a) → RO K cA H ρ a o
  live : ∀ (i : Nat) (o : O), h[i]? = some o → o ≠ .dead → ∃ a, ρ[i]? = some (some a)
  inj : ∀ (i j : Nat) (a : Addr), ρ[i]? = some (some a) → ρ[j]? = some (some a) → i = j
section
variable {cA : Str → Addr} {h h' : Hq} {a : Addr}
theorem Rep.tupOk (r : Rep K cA ρ h H) : TupOk H ρ := fun i a e vs hv => by
  have hl := (List.getElem?_eq_some_iff.mp e).1
  rw [r.len] at hl
  have q := r.obj i h[i] a (List.getElem?_eq_getElem hl) e
  cases z : h[i] with
  | lst ws => rw [z] at q; obtain ⟨_, q, _⟩ := q; rw [hv] at q; cases q
  | dct ws => rw [z] at q; obtain ⟨_, q, _⟩ := q; rw [hv] at q; cases q
  | ins c fs => rw [z] at q; obtain ⟨_, _, q, _⟩ := q; rw [hv] at q; cases q
  | dead => rw [z] at q; exact q.elim
theorem Rep.some_of (r : Rep K cA ρ h H) {i : Nat} {a : Addr} (e : ρ[i]? = some (some a)) : H a ≠ none := by
  have hl := (List.getElem?_eq_some_iff.mp e).1
  rw [r.len] at hl
  have q := r.obj i h[i] a (List.getElem?_eq_getElem hl) e
  cases z : h[i] with
  | lst ws => rw [z] at q; obtain ⟨_, q, _⟩ := q; rw [q]; exact fun x => nomatch x
  | dct ws => rw [z] at q; obtain ⟨_, q, _⟩ := q; rw [q]; exact fun x => nomatch x
  | ins c fs => rw [z] at q; obtain ⟨_, _, q, _⟩ := q; rw [q]; exact fun x => nomatch x
  | dead => rw [z] at q; exact q.elim
theorem Rep.notTr (r : Rep K cA ρ h H) {a : Addr} (e : H a = none) : NotTr ρ a := fun i hi => r.some_of hi e
theorem RO.mono (e : Ext H ρ H' ρ') (t : TupOk H ρ) (hs : H' a = H a) : ∀ {o : O}, RO K cA H ρ a o → RO K cA H' ρ' a o
  | .lst ws, ⟨vs, q, r⟩ => ⟨vs, by rw [hs]; exact q, r.mono e t⟩
  | .dct ws, ⟨vs, q, r⟩ => ⟨vs, by rw [hs]; exact q, r.mono e t⟩
  | .ins c fs, ⟨dx, fus, q, r⟩ => ⟨dx, fus, by rw [hs]; exact q, r.mono e t⟩

/-- a new thing that is not tracked -/
theorem Ext.fresh {p : Addr} {o : HO} (hp : H p = none) : Ext H ρ (upd H p o) ρ where
  len := Nat.le_refl _
  old := fun _ _ _ h => h
  new := fun i a hi h => absurd (List.getElem?_eq_some_iff.mp h).1 (by omega)
  keep := fun a o h _ => by rw [upd_ne (ne_of_none h hp)]; exact h
  stay := fun a h => by
    by_cases q : a = p
    · subst q; rw [upd_same]; exact fun x => nomatch x
    · rw [upd_ne q]; exact h
theorem Rep.fresh {p : Addr} {o : HO} (r : Rep K cA ρ h H) (hp : H p = none) : Rep K cA ρ h (upd H p o) where
  len := r.len
  obj := fun i ob a e1 e2 => (r.obj i ob a e1 e2).mono (Ext.fresh hp) r.tupOk (upd_ne fun z => by subst z; exact r.some_of e2 hp)
  live := r.live
  inj := r.inj
/-- a new tracked thing -/
theorem Ext.alloc {p : Addr} {o : HO} (hp : H p = none) : Ext H ρ (upd H p o) (ρ ++ [some p]) where
  len := by simp
  old := fun i a hi h => by rw [List.getElem?_append_left hi] at h; exact h
  new := fun i a hi h => by
    rw [List.getElem?_append_right hi] at h
    have : i - ρ.length = 0 := by have := (List.getElem?_eq_some_iff.mp h).1; simp at this; omega
    rw [this] at h
    simp at h
    rw [← h]; exact hp
  keep := (Ext.fresh (ρ := ρ) hp).keep
  stay := (Ext.fresh (ρ := ρ) (o := o) hp).stay
theorem Rep.alloc {p : Addr} {o : HO} {ob : O} (r : Rep K cA ρ h H) (hp : H p = none) (hd : ob ≠ .dead) (q : RO K cA (upd H p o) (ρ ++ [some p]) p ob) : Rep K cA (ρ ++ [some p]) (h ++ [ob]) (upd H p o) where
  len := by simp [r.len]
  obj := fun i u a e1 e2 => by
    by_cases hi : i < ρ.length
    · rw [List.getElem?_append_left hi] at e2
      rw [List.getElem?_append_left (by rw [← r.len]; exact hi)] at e1
      exact (r.obj i u a e1 e2).mono (Ext.alloc hp) r.tupOk (upd_ne fun z => by subst z; exact r.some_of e2 hp)
    · have hl := (List.getElem?_eq_some_iff.mp e2).1
      simp at hl
      have ei : i = ρ.length := by omega
      subst ei
      simp at e2
      rw [r.len] at e1
      simp at e1
      subst e1 e2
      exact q
  live := fun i u e1 hu => by
    by_cases hi : i < ρ.length
    · rw [List.getElem?_append_left (by rw [← r.len]; exact hi)] at e1
      obtain ⟨a, q⟩ := r.live i u e1 hu
      exact ⟨a, by rw [List.getElem?_append_left hi]; exact q⟩
    · have hl := (List.getElem?_eq_some_iff.mp e1).1
      simp at hl
      have ei : i = ρ.length := by rw [r.len]; rw [r.len] at hi; omega
      subst ei
      exact ⟨p, by simp⟩
  inj := fun i j a e1 e2 => by
    have hi := (List.getElem?_eq_some_iff.mp e1).1
    have hj := (List.getElem?_eq_some_iff.mp e2).1
    simp at hi hj
    by_cases h1 : i < ρ.length <;> by_cases h2 : j < ρ.length
    · rw [List.getElem?_append_left h1] at e1
      rw [List.getElem?_append_left h2] at e2
      exact r.inj i j a e1 e2
    · rw [List.getElem?_append_left h1] at e1
      have : j = ρ.length := by omega
      subst this
      simp at e2
      subst e2
      exact absurd hp (r.some_of e1)
    · rw [List.getElem?_append_left h2] at e2
      have : i = ρ.length := by omega
      subst this
      simp at e1
      subst e1
      exact absurd hp (r.some_of e2)
    · omega
/-- a tracked thing is changed -/
theorem Ext.write {i : Nat} {o : HO} (e : ρ[i]? = some (some a)) (hs : H a ≠ none) : Ext H ρ (upd H a o) ρ where
  len := Nat.le_refl _
  old := fun _ _ _ h => h
  new := fun i a hi h => absurd (List.getElem?_eq_some_iff.mp h).1 (by omega)
  keep := fun b ob h n => by
    rw [upd_ne]; exact h
    intro z; subst z; exact n i e
  stay := fun b h => by
    by_cases q : b = a
    · subst q; rw [upd_same]; exact fun x => nomatch x
    · rw [upd_ne q]; exact h
theorem Rep.write {i : Nat} {o : HO} {ob : O} (r : Rep K cA ρ h H) (e : ρ[i]? = some (some a)) (hd : ob ≠ .dead) (q : RO K cA (upd H a o) ρ a ob) : Rep K cA ρ (h.set i ob) (upd H a o) where
  len := by simp [r.len]
  obj := fun j u b e1 e2 => by
    by_cases hj : i = j
    · subst hj
      rw [e] at e2; cases e2
      have hl := (List.getElem?_eq_some_iff.mp e).1
      rw [List.getElem?_set_self (by rw [← r.len]; exact hl)] at e1
      cases e1
      exact q
    · rw [List.getElem?_set_ne hj] at e1
      refine (r.obj j u b e1 e2).mono (Ext.write e (r.some_of e)) r.tupOk (upd_ne fun z => ?_)
      subst z
      exact hj (r.inj i j _ e e2)
  live := fun j u e1 hu => by
    by_cases hj : i = j
    · subst hj; exact ⟨a, e⟩
    · rw [List.getElem?_set_ne hj] at e1
      exact r.live j u e1 hu
  inj := r.inj
/-- a tracked thing is let go -/
theorem Ext.free {i : Nat} : Ext H ρ H (ρ.set i none) where
  len := by simp
  old := fun j b hj h => by
    by_cases z : i = j
    · subst z; rw [List.getElem?_set_self hj] at h; cases h
    · rw [List.getElem?_set_ne z] at h; exact h
  new := fun j b hj h => absurd (List.getElem?_eq_some_iff.mp h).1 (by simp; omega)
  keep := fun _ _ h _ => h
  stay := fun _ h => h
theorem Rep.free {i : Nat} (r : Rep K cA ρ h H) : Rep K cA (ρ.set i none) (h.set i .dead) H where
  len := by simp [r.len]
  obj := fun j u b e1 e2 => by
    have hj : i ≠ j := fun z => by
      subst z
      have hl := (List.getElem?_eq_some_iff.mp e2).1
      simp at hl
      rw [List.getElem?_set_self hl] at e2; cases e2
    rw [List.getElem?_set_ne hj] at e1 e2
    exact (r.obj j u b e1 e2).mono Ext.free r.tupOk rfl
  live := fun j u e1 hu => by
    by_cases hj : i = j
    · subst hj
      have hl := (List.getElem?_eq_some_iff.mp e1).1
      simp at hl
      rw [List.getElem?_set_self hl] at e1
      cases e1
      exact absurd rfl hu
    · rw [List.getElem?_set_ne hj] at e1 ⊢
      exact r.live j u e1 hu
  inj := fun j k b e1 e2 => r.inj j k b (by
    by_cases hj : i = j
    · subst hj
      have hl := (List.getElem?_eq_some_iff.mp e1).1
      simp at hl
      rw [List.getElem?_set_self hl] at e1; cases e1
    · rw [List.getElem?_set_ne hj] at e1; exact e1) (by
    by_cases hj : i = k
    · subst hj
      have hl := (List.getElem?_eq_some_iff.mp e2).1
      simp at hl
      rw [List.getElem?_set_self hl] at e2; cases e2
    · rw [List.getElem?_set_ne hj] at e2; exact e2)
end
end MP
set_option Elab.async false
set_option linter.all false
set_option maxRecDepth 100000
set_option maxHeartbeats 1000000
/-! MP2: the syntax and the evaluator. -/
namespace MP
open PySem PySem.Spec PyProof.Rows L2

/-! ### pure data -/
mutual
def W.d : W → PyData
  | .non => .none
  | .bl b => .bool b
  | .int i => .int i
  | .str s => .str s
  | .tup ws => .tuple (W.ds ws)
  | .lst ws => .list (W.ds ws)
  | .dct _ => .dict []
  | .ref _ => .dict []
  | .scr _ => .dict []
def W.ds : List W → List PyData
  | [] => []
  | w :: ws => W.d w :: W.ds ws
end
theorem W.ds_eq : ∀ ws : List W, W.ds ws = ws.map W.d
  | [] => by simp [W.ds]
  | w :: ws => by simp [W.ds, W.ds_eq ws]
def W.shp (w : W) : Bool := SeqAt.shaped w.d

mutual
def W.fits (n : Nat) : W → Bool
  | .ref i => decide (i < n)
  | .tup ws => W.fitsL n ws
  | .lst ws => W.fitsL n ws
  | .dct kvs => W.fitsK n kvs
  | _ => true
def W.fitsL (n : Nat) : List W → Bool
  | [] => true
  | w :: ws => W.fits n w && W.fitsL n ws
def W.fitsK (n : Nat) : List (Key × W) → Bool
  | [] => true
  | (_, w) :: ws => W.fits n w && W.fitsK n ws
end
def fitsF (n : Nat) : List (Str × W) → Bool
  | [] => true
  | (_, w) :: ws => W.fits n w && fitsF n ws
def O.fits (n : Nat) : O → Bool
  | .lst ws => W.fitsL n ws
  | .dct kvs => W.fitsK n kvs
  | .ins _ fs => fitsF n fs
  | .dead => true
mutual
def W.beq : W → W → Bool
  | .non, .non => true
  | .bl a, .bl b => a == b
  | .int a, .int b => decide (a = b)
  | .str a, .str b => decide (a = b)
  | .tup a, .tup b => W.beqL a b
  | .lst a, .lst b => W.beqL a b
  | .dct a, .dct b => W.beqK a b
  | .ref a, .ref b => a == b
  | .scr a, .scr b => decide (a = b)
  | _, _ => false
def W.beqL : List W → List W → Bool
  | [], [] => true
  | a :: as, b :: bs => W.beq a b && W.beqL as bs
  | _, _ => false
def W.beqK : List (Key × W) → List (Key × W) → Bool
  | [], [] => true
  | (k, a) :: as, (l, b) :: bs => decide (k = l) && (W.beq a b && W.beqK as bs)
  | _, _ => false
end
def beqF : List (Str × W) → List (Str × W) → Bool
  | [], [] => true
  | (k, a) :: as, (l, b) :: bs => decide (k = l) && (W.beq a b && beqF as bs)
  | _, _ => false
def O.beq : O → O → Bool
  | .lst a, .lst b => W.beqL a b
  | .dct a, .dct b => W.beqK a b
  | .ins c a, .ins e b => decide (c = e) && beqF a b
  | .dead, .dead => true
  | _, _ => false

/-! ### the end of a call: what the call has made is let go, if nothing leads to it -/
def preOk (n : Nat) : Hq → Hq → Bool
  | [], _ => true
  | _ :: _, [] => false
  | a :: as, b :: bs => (O.beq a b || O.fits n b) && preOk n as bs
def trim (h h' : Hq) : Hq := if preOk h.length h h' then h'.take h.length else h'
def exit1 (h : Hq) (r : R W) : R W := match r with
  | .ok w h' => if w.fits h.length then .ok w (trim h h') else .ok w h'
  | .exc c h' => .exc c (trim h h')
  | .bad => .bad

/-! ### syntax -/
inductive Bop where
  | add | sub | mul | fdiv | mod | pow
  deriving DecidableEq
inductive Cop where
  | eq | ne | lt | le | gt | ge | isin | notin | isn | notn
  deriving DecidableEq
/-- built-in functions of one argument -/
inductive Bf where
  | len | tuple_ | list_ | int_ | str_ | abs_ | all_ | any_ | sorted_ | max1 | min1
  deriving DecidableEq
inductive Bf2 where
  | max2 | min2
  deriving DecidableEq
/-- methods of built-in types: what they are of is in the name -/
inductive Bm where
  | dget | append | dpop | lpop | join | split | count | index | items
  deriving DecidableEq
inductive Ty where
  | non | bl | int | str | tup | lst | dct
  deriving DecidableEq
/-- what a for walks -/
inductive Ik where
  | one | zip | enum | range
  deriving DecidableEq

mutual
inductive E where
  | cst (w : W)
  | var (i : Nat)
  | glb (x : Str)
  | tup (es : Es) | lst (es : Es) | mlst (es : Es)
  | frz (a : E)
  | bin (o : Bop) (a b : E)
  | neg (a : E)
  | cmp (o : Cop) (a b : E)
  | chain (o p : Cop) (a b c : E)
  | and_ (a b : E) | or_ (a b : E) | not_ (a : E)
  | ite (c a b : E)
  | idx (a i : E)
  | slc (a : E) (lo hi : Eo)
  | call (f : Str) (es : Es)
  | b1 (f : Bf) (a : E)
  | b2 (f : Bf2) (a b : E)
  | bm (m : Bm) (o : E) (es : Es)
  | isi (a : E) (t : Ty)
  | sset (a : E) | srt (mu : Bool) (a : E)
  | dictzip (a b : E) | addm (a b : E) | dict (a : E) | mdict (a : E)
  | meth (o : E) (m : Str) (es : Es)
  | attr (o : E) (f : Str)
  | mk (c : Str) (es : Es)
  | dsp (ks : List Str) (es : Es)
  | lc (own : List (Str × Nat)) (t : T) (k : Ik) (its : Es) (cond : Eo) (elt : E)
  | lc2 (own : List (Str × Nat)) (vs1 : List Nat) (t : T) (k : Ik) (its : Es) (t1 : T) (it1 : E) (elt : E)
inductive Es where
  | nil | cons (e : E) (es : Es)
inductive Eo where
  | no | yes (e : E)
inductive T where
  | name (i : Nat) | tup (ts : Ts)
inductive Ts where
  | nil | cons (t : T) (ts : Ts)
end

inductive Tg where
  | t (t : T) | sub (o i : E) | attr (o : E) (f : Str)
mutual
inductive S where
  | ret (e : E) | retN
  | asg (t : Tg) (e : E)
  | aug (i : Nat) (o : Bop) (e : E)
  | ife (c : E) (a b : Ss)
  | forS (t : T) (k : Ik) (its : Es) (body : Ss)
  | whileS (c : E) (body : Ss)
  | expr (e : E)
  | raise_ (c : Str)
  | pass_ | cont | brk
inductive Ss where
  | nil | cons (s : S) (ss : Ss)
end

/-! ### the operators by values -/
def vw (h : Hq) (w : W) : W := match w with
  | .ref i => match h[i]? with
    | some (.lst ws) => .lst ws
    | some (.dct kvs) => .dct kvs
    | _ => w
  | _ => w
/-- a list, a tuple -/
def seqOf : W → Option (List W)
  | .lst ws => some ws
  | .tup ws => some ws
  | .scr ns => some (ns.map W.int)
  | _ => none
def b2w (b : Bool) : W := .bl b
def line : Nat := 16777216
def binW (o : Bop) (x y : W) : Option W := match o, x, y with
  | .add, .int i, .int j => some (.int (i + j))
  | .add, .str a, .str b => if a.length + b.length ≤ line then some (.str (a ++ b)) else none
  | .add, .tup a, .tup b => if a.length + b.length ≤ line then some (.tup (a ++ b)) else none
  | .add, .lst a, .lst b => if a.length + b.length ≤ line then some (.lst (a ++ b)) else none
  | .sub, .int i, .int j => some (.int (i - j))
  | .mul, .int i, .int j => if (decide (-(2 ^ 64) < i) && decide (i < 2 ^ 64)) || (decide (-(2 ^ 64) < j) && decide (j < 2 ^ 64)) then some (.int (i * j)) else none
  | .mul, .tup a, .int j => if !a.isEmpty && decide (2 ≤ j) && decide (j ≤ 1000) && decide (a.length ≤ 1000) then some (.tup (List.replicate j.toNat a).flatten) else none
  | .mul, .str a, .int j => if decide (j = 0) then some (.str Str.empty) else if decide (j = 1) then some (.str a) else none
  | .fdiv, .int i, .int j => if decide (0 < j) && decide (j < 1073741824) then some (.int (i / j)) else none
  | .mod, .int i, .int j => if decide (0 < j) then some (.int (i % j)) else none
  | .pow, .int i, .int j => if decide (0 ≤ j) && decide (j ≤ 1000000) && decide (i.natAbs < 2 ^ 64) then some (.int (i ^ j.toNat)) else none
  | _, _, _ => none
def strLt (a b : Str) : Bool := decide (a.cps.toList < b.cps.toList)
def inD (x : W) (ws : List W) : Bool := ws.any fun z => PyData.eqv z.d x.d
def isNon : W → Bool
  | .non => true
  | _ => false
def isRef : W → Bool
  | .ref _ => true
  | _ => false
def flatW : W → Bool
  | .non => true
  | .bl _ => true
  | .int _ => true
  | .str _ => true
  | _ => false
def keyOf? : W → Option Key
  | .int i => some (.inl i)
  | .str s => some (.inr s)
  | _ => none
def valW (kvs : List (Key × W)) (k : Key) : Option W := (kvs.find? fun kv => decide (kv.1 = k)).map (·.2)
def hasK (k : Key) (kvs : List (Key × W)) : Bool := (valW kvs k).isSome
def cmpW (o : Cop) (x y : W) : Option Bool := match o with
  | .eq => if x.shp && y.shp then some (PyData.eqv x.d y.d) else none
  | .ne => if x.shp && y.shp then some (!PyData.eqv x.d y.d) else none
  | .lt => match x, y with
    | .int i, .int j => some (decide (i < j))
    | .str a, .str b => some (strLt a b)
    | _, _ => none
  | .le => match x, y with
    | .int i, .int j => some (decide (i ≤ j))
    | _, _ => none
  | .gt => match x, y with
    | .int i, .int j => some (decide (j < i))
    | _, _ => none
  | .ge => match x, y with
    | .int i, .int j => some (decide (j ≤ i))
    | _, _ => none
  | .isin => match y with
    | .lst ws => if x.shp && (W.lst ws).shp then some (inD x ws) else none
    | .tup ws => if flatW x && ws.all flatW then some (inD x ws) else none
    | .str b => match x with
      | .str a => some (!(Builtin.Str.occurrences b a 0 b.length 1).isEmpty)
      | _ => none
    | .dct kvs => match keyOf? x with
      | some k => some (hasK k kvs)
      | none => none
    | _ => none
  | .notin => match y with
    | .lst ws => if x.shp && (W.lst ws).shp then some (!inD x ws) else none
    | .tup ws => if flatW x && ws.all flatW then some (!inD x ws) else none
    | .str b => match x with
      | .str a => some (!(!(Builtin.Str.occurrences b a 0 b.length 1).isEmpty))
      | _ => none
    | .dct kvs => match keyOf? x with
      | some k => some (!hasK k kvs)
      | none => none
    | _ => none
  | .isn => match y with
    | .non => if isRef x then none else some (isNon x)
    | _ => none
  | .notn => match y with
    | .non => if isRef x then none else some (!isNon x)
    | _ => none
def idxW (x y : W) : Option W := match y with
  | .int i => match x with
    | .lst ws => atI ws i
    | .tup ws => atI ws i
    | .scr ns => (atI ns i).map W.int
    | .str s => if s.length ≤ line then (atI s.cps.toList i).map fun c => .str ⟨#[c]⟩ else none
    | .dct kvs => valW kvs (.inl i)
    | _ => none
  | .str k => match x with
    | .dct kvs => valW kvs (.inr k)
    | _ => none
  | _ => none
def cutW (ws : List W) (lo hi : Option Int) : List W := (ws.drop (HT.sIx ws.length 0 lo)).take (HT.sIx ws.length ws.length hi - HT.sIx ws.length 0 lo)
def slcW (x : W) (lo hi : Option Int) : Option W := match x with
  | .lst ws => some (.lst (cutW ws lo hi))
  | .tup ws => some (.tup (cutW ws lo hi))
  | .str s => if s.length ≤ line then some (.str (cutS s lo hi)) else none
  | _ => none
def blsOf : List W → Option (List Bool)
  | [] => some []
  | .bl b :: ws => (blsOf ws).map (b :: ·)
  | _ :: _ => none
def intsOf : List W → Option (List Int)
  | [] => some []
  | .int b :: ws => (intsOf ws).map (b :: ·)
  | _ :: _ => none
def strsOf : List W → Option (List Str)
  | [] => some []
  | .str b :: ws => (strsOf ws).map (b :: ·)
  | _ :: _ => none
def strLe (a b : Str) : Bool := decide (a.cps.toList ≤ b.cps.toList)
def putKW (kvs : List (Key × W)) (k : Key) (w : W) : List (Key × W) :=
  if (kvs.any fun kv => decide (kv.1 = k)) = true then kvs.map (fun kv => if kv.1 = k then (kv.1, w) else kv) else kvs ++ [(k, w)]
def dropKW (kvs : List (Key × W)) (k : Key) : List (Key × W) := kvs.filter fun kv => decide (kv.1 ≠ k)
def pairsK : List W → List (Key × W) → Option (List (Key × W))
  | [], acc => some acc
  | .tup [a, b] :: r, acc => match keyOf? a with
    | some k => pairsK r (putKW acc k b)
    | none => none
  | _ :: _, _ => none
def b1W (f : Bf) (x : W) : Option W := match f with
  | .len => match x with
    | .str s => if s.length ≤ line then some (.int s.length) else none
    | .dct kvs => some (.int kvs.length)
    | _ => (seqOf x).map fun ws => .int ws.length
  | .tuple_ => match x with
    | .lst ws => some (.tup ws)
    | .tup ws => some (.tup ws)
    | _ => none
  | .list_ => (seqOf x).map .lst
  | .int_ => match x with
    | .int i => some (.int i)
    | .bl b => some (.int (if b then 1 else 0))
    | _ => none
  | .str_ => match x with
    | .int i => if i.natAbs.log2 < 1920 then some (.str (toString i)) else none
    | _ => none
  | .abs_ => match x with
    | .int i => some (.int (if i < 0 then -i else i))
    | _ => none
  | .all_ => match x with
    | .lst ws => (blsOf ws).map fun bs => .bl (bs.all id)
    | _ => none
  | .any_ => match x with
    | .lst ws => (blsOf ws).map fun bs => .bl (bs.any id)
    | _ => none
  | .sorted_ => match x with
    | .lst ws => (strsOf ws).map fun ss => .lst ((ss.mergeSort strLe).map W.str)
    | _ => none
  | .max1 => match x with
    | .lst ws => match intsOf ws with
      | some (n :: ns) => some (.int (ns.foldl max n))
      | _ => none
    | _ => none
  | .min1 => match x with
    | .lst ws => match intsOf ws with
      | some (n :: ns) => some (.int (ns.foldl min n))
      | _ => none
    | _ => none
/-- dict(x) -/
def dictW (x : W) : Option (List (Key × W)) := match x with
  | .dct kvs => some kvs
  | _ => match seqOf x with
    | some ws => pairsK ws []
    | none => none
def b2W (f : Bf2) (x y : W) : Option W := match f, x, y with
  | .max2, .int i, .int j => some (.int (if j > i then j else i))
  | .min2, .int i, .int j => some (.int (if j < i then j else i))
  | _, _, _ => none
def typW : W → Option Ty
  | .non => some .non
  | .bl _ => some .bl
  | .int _ => some .int
  | .str _ => some .str
  | .tup _ => some .tup
  | .lst _ => some .lst
  | .dct _ => some .dct
  | .ref _ => none
  | .scr _ => some .lst
def isiB (u t : Ty) : Bool := decide (u = t) || (decide (u = .bl) && decide (t = .int))
def ssetW (x : W) : Option W := match x with
  | .lst ws => (strsOf ws).bind fun ss => if ss.length < 4000 then some (.lst ((ss.eraseDups.mergeSort strLe).map W.str)) else none
  | _ => none
/-- sorted of any alike data -/
def sortOk (ws : List W) : Bool := (strsOf ws).isSome || (((W.ds ws).all fun d => (W.ds ws).all fun e => PySem.W.alike d e) && ((((W.ds ws).all fun d => match d with
    | .tuple (_ :: _) => true
    | _ => false) || ((W.ds ws).all fun d => match d with
    | .tuple _ => false
    | .none => false
    | _ => true)) && ((W.ds ws).all fun d => d.canLay0 && decide (d.depth ≤ 60))))
def sortW (ws : List W) : List W := match strsOf ws with
  | some ss => (ss.mergeSort strLe).map W.str
  | none => ws.mergeSort (PySem.W.dataLe false W.d)
def optR {α : Type} (o : Option α) (h : Hq) : R α := match o with
  | some a => .ok a h
  | none => .bad
/-- what can be walked -/
def srcW : W → Option (List W)
  | .str s => some (s.cps.toList.map fun c => .str ⟨#[c]⟩)
  | .lst ws => some ws
  | .tup ws => some ws
  | .scr ns => some (ns.map W.int)
  | _ => none
/-- the items that a for walks -/
def itemsW (k : Ik) (ws : List W) : Option (List W) := match k, ws with
  | .one, [x] => srcW x
  | .zip, [x, y] => match srcW x, srcW y with
    | some xs, some ys => some ((xs.zip ys).map fun p => .tup [p.1, p.2])
    | _, _ => none
  | .enum, [x] => match srcW x with
    | some xs => some (xs.zipIdx.map fun p => .tup [.int p.2, p.1])
    | none => none
  | .range, [.int n] => if decide (-(2 ^ 62) ≤ n) && decide (n < 2 ^ 62) then some ((List.range n.toNat).map fun (i : Nat) => W.int (i : Int)) else none
  | _, _ => none

/-! ### the evaluator -/
structure Gam where
  con : Str → Option W
  fn : Str → List W → Hq → R W
  mt : Str → Str → List W → Hq → R W
  fuel : Nat

def wipeS (s : Sto) : List Nat → Sto
  | [] => s
  | v :: vs => (wipeS s vs).set v none
mutual
def asgT : T → W → Sto → Option Sto
  | .name i, w, s => some (s.set i (some w))
  | .tup ts, w, s => match w with
    | .tup ws => asgTs ts ws s
    | _ => none
def asgTs : Ts → List W → Sto → Option Sto
  | .nil, [], s => some s
  | .cons t ts, w :: ws, s => match asgT t w s with
    | some s' => asgTs ts ws s'
    | none => none
  | _, _, _ => none
end
/-- a comprehension's turns -/
def lcLoop (f : W → Hq → R (Option W)) : List W → List W → Hq → R (List W)
  | [], acc, h => .ok acc h
  | w :: ws, acc, h => (f w h).bind fun o h1 => match o with
    | some y => if acc.length < line then lcLoop f ws (acc ++ [y]) h1 else .bad
    | none => lcLoop f ws acc h1
/-- two clauses: the inner loop goes on with the list made so far -/
def lcLoop2 (f : W → List W → Hq → R (List W)) : List W → List W → Hq → R (List W)
  | [], acc, h => .ok acc h
  | w :: ws, acc, h => (f w acc h).bind fun acc1 h1 => lcLoop2 f ws acc1 h1
def noExc {α : Type} : R α → R α
  | .exc _ _ => .bad
  | r => r
def tstR (r : R W) : R Bool := r.bind fun w h => match w with
  | .bl b => .ok b h
  | _ => .bad
def mIns (h : Hq) (w : W) : Option (Nat × Str × List (Str × W)) := match w with
  | .ref i => match h[i]? with
    | some (.ins c fs) => some (i, c, fs)
    | _ => none
  | _ => none
def bmW (m : Bm) (o : W) (ws : List W) (h : Hq) : R W := match m, ws with
  | .append, [w] => match o with
    | .ref i => match h[i]? with
      | some (.lst xs) => if xs.length < line then .ok .non (h.set i (.lst (xs ++ [w]))) else .bad
      | _ => .bad
    | _ => .bad
  | .lpop, [] => match o with
    | .ref i => match h[i]? with
      | some (.lst xs) => match xs[xs.length - 1]? with
        | some y => .ok y (h.set i (.lst xs.dropLast))
        | none => .bad
      | _ => .bad
    | _ => .bad
  | .dpop, [k] => match o with
    | .ref i => match h[i]?, keyOf? k with
      | some (.dct kvs), some k => match valW kvs k with
        | some y => .ok y (h.set i (.dct (dropKW kvs k)))
        | none => .bad
      | _, _ => .bad
    | _ => .bad
  | .dget, [k, d] => match vw h o, keyOf? k with
    | .dct kvs, some k => .ok ((valW kvs k).getD d) h
    | _, _ => .bad
  | _, _ => .bad
/-- the receiver of a built-in method -/
def bmOk (m : Bm) (x : W) (h : Hq) : Bool := match m with
  | .append => match x with
    | .ref i => match h[i]? with
      | some (.lst _) => true
      | _ => false
    | _ => false
  | .lpop => match x with
    | .ref i => match h[i]? with
      | some (.lst _) => true
      | _ => false
    | _ => false
  | .dpop => match x with
    | .ref i => match h[i]? with
      | some (.dct _) => true
      | _ => false
    | _ => false
  | .dget => match vw h x with
    | .dct _ => true
    | _ => false
  | _ => false
mutual
def evE (G : Gam) : E → Sto → Hq → R W
  | .cst w, _, h => .ok w h
  | .var i, s, h => match s[i]? with
    | some (some w) => .ok w h
    | _ => .bad
  | .glb x, _, h => optR (G.con x) h
  | .tup es, s, h => (evEs G es s h).bind fun ws h => .ok (.tup ws) h
  | .lst es, s, h => (evEs G es s h).bind fun ws h => .ok (.lst ws) h
  | .mlst es, s, h => (evEs G es s h).bind fun ws h => .ok (.ref h.length) (h ++ [.lst ws])
  | .frz a, s, h => (evE G a s h).bind fun w h => match w with
    | .ref i => match h[i]? with
      | some (.lst ws) => .ok (.lst ws) (h.set i .dead)
      | some (.dct kvs) => .ok (.dct kvs) (h.set i .dead)
      | _ => .bad
    | _ => .bad
  | .bin o a b, s, h => (evE G a s h).bind fun x h => (evE G b s h).bind fun y h => optR (binW o (vw h x) (vw h y)) h
  | .neg a, s, h => (evE G a s h).bind fun x h => match x with
    | .int i => .ok (.int (-i)) h
    | _ => .bad
  | .cmp o a b, s, h => (evE G a s h).bind fun x h => (evE G b s h).bind fun y h => (optR (cmpW o (vw h x) (vw h y)) h).bind fun b h => .ok (.bl b) h
  | .chain o p a b c, s, h => (evE G a s h).bind fun x h => (evE G b s h).bind fun y h => (optR (cmpW o (vw h x) (vw h y)) h).bind fun k h => match k with
    | true => (evE G c s h).bind fun z h => (optR (cmpW p (vw h y) (vw h z)) h).bind fun b h => .ok (.bl b) h
    | false => .ok (.bl false) h
  | .and_ a b, s, h => (tstR (evE G a s h)).bind fun c h => match c with
    | true => (tstR (evE G b s h)).bind fun c h => .ok (.bl c) h
    | false => .ok (.bl false) h
  | .or_ a b, s, h => (tstR (evE G a s h)).bind fun c h => match c with
    | true => .ok (.bl true) h
    | false => (tstR (evE G b s h)).bind fun c h => .ok (.bl c) h
  | .not_ a, s, h => (tstR (evE G a s h)).bind fun c h => .ok (.bl (!c)) h
  | .ite c a b, s, h => (tstR (evE G c s h)).bind fun k h => match k with
    | true => evE G a s h
    | false => evE G b s h
  | .idx a i, s, h => (evE G a s h).bind fun x h => (evE G i s h).bind fun y h => optR (idxW (vw h x) y) h
  | .slc a lo hi, s, h => (evE G a s h).bind fun x h => (evEo G lo s h).bind fun l h => (evEo G hi s h).bind fun u h => optR (slcW (vw h x) l u) h
  | .call f es, s, h => (evEs G es s h).bind fun ws h => G.fn f ws h
  | .b1 f a, s, h => (evE G a s h).bind fun x h => optR (b1W f (vw h x)) h
  | .b2 f a b, s, h => (evE G a s h).bind fun x h => (evE G b s h).bind fun y h => optR (b2W f x y) h
  | .bm m o es, s, h => (evE G o s h).bind fun x h => match bmOk m x h with
    | true => (evEs G es s h).bind fun ws h => bmW m x ws h
    | false => .bad
  | .isi a t, s, h => (evE G a s h).bind fun x h => match typW (vw h x) with
    | some u => .ok (.bl (isiB u t)) h
    | none => .bad
  | .sset a, s, h => (evE G a s h).bind fun x h => optR (ssetW (vw h x)) h
  | .srt mu a, s, h => (evE G a s h).bind fun x h => match vw h x with
    | .lst ws => if sortOk ws = true then (match mu with
      | true => .ok (.ref h.length) (h ++ [.lst (sortW ws)])
      | false => .ok (.lst (sortW ws)) h) else .bad
    | _ => .bad
  | .dictzip a b, s, h => (evE G a s h).bind fun x h => (evE G b s h).bind fun y h => match itemsW .zip [x, y] with
    | some ws => optR ((pairsK ws []).map .dct) h
    | none => .bad
  | .addm a b, s, h => (evE G a s h).bind fun x h => (evE G b s h).bind fun y h => match vw h x, vw h y with
    | .lst as, .lst bs => if as.length + bs.length ≤ line then .ok (.ref h.length) (h ++ [.lst (as ++ bs)]) else .bad
    | _, _ => .bad
  | .dict a, s, h => (evE G a s h).bind fun x h => optR ((dictW (vw h x)).map .dct) h
  | .mdict a, s, h => (evE G a s h).bind fun x h => match dictW (vw h x) with
    | some kvs => .ok (.ref h.length) (h ++ [.dct kvs])
    | none => .bad
  | .meth o m es, s, h => (evE G o s h).bind fun x h => match mIns h x with
    | some (_, c, fs) => if (fs.lookup m).isNone then (evEs G es s h).bind fun ws h => noExc (G.mt c m (x :: ws) h) else .bad
    | none => .bad
  | .attr o f, s, h => (evE G o s h).bind fun x h => match mIns h x with
    | some (_, _, fs) => optR (fs.lookup f) h
    | none => .bad
  | .mk c es, s, h => (evEs G es s h).bind fun ws h => (noExc (G.mt c "__init__" (.ref h.length :: ws) (h ++ [.ins c []]))).bind fun w h' => match w with
    | .non => .ok (.ref h.length) h'
    | _ => .bad
  | .dsp ks es, s, h => (evEs G es s h).bind fun ws h => .ok (.dct ((ks.map Sum.inr).zip ws)) h
  | .lc own t k its cond elt, s, h => (evEs G its s h).bind fun ws h => match itemsW k ws with
    | some xs => (lcLoop (fun w h => match asgT t w (wipeS s (own.map (·.2))) with
      | some s' => (evEc G cond s' h).bind fun b h => match b with
        | true => (noExc (evE G elt s' h)).bind fun y h => .ok (some y) h
        | false => .ok none h
      | none => .bad) xs [] h).bind fun ys h => .ok (.lst ys) h
    | none => .bad
  | .lc2 own vs1 t k its t1 it1 elt, s, h => (evEs G its s h).bind fun ws h => match itemsW k ws with
    | some xs => (lcLoop2 (fun w acc h => match asgT t w (wipeS s (own.map (·.2))) with
      | some s' => (noExc (evE G it1 s' h)).bind fun v h => match itemsW .one [v] with
        | some zs => lcLoop (fun w h => match asgT t1 w (wipeS s' vs1) with
          | some s2 => (noExc (evE G elt s2 h)).bind fun y h => .ok (some y) h
          | none => .bad) zs acc h
        | none => .bad
      | none => .bad) xs [] h).bind fun ys h => .ok (.lst ys) h
    | none => .bad
def evEs (G : Gam) : Es → Sto → Hq → R (List W)
  | .nil, _, h => .ok [] h
  | .cons e es, s, h => (evE G e s h).bind fun w h => (evEs G es s h).bind fun ws h => .ok (w :: ws) h
def evEo (G : Gam) : Eo → Sto → Hq → R (Option Int)
  | .no, _, h => .ok none h
  | .yes e, s, h => (evE G e s h).bind fun w h => match w with
    | .int i => .ok (some i) h
    | _ => .bad
def evEc (G : Gam) : Eo → Sto → Hq → R Bool
  | .no, _, h => .ok true h
  | .yes e, s, h => noExc (tstR (evE G e s h))
end

inductive RS where
  | nx (s : Sto) (h : Hq) | rt (w : W) (h : Hq) | bk (s : Sto) (h : Hq) | ct (s : Sto) (h : Hq)
  | exc (c : Str) (s : Sto) (h : Hq) | bad
def R.toS {α : Type} (s : Sto) (r : R α) (f : α → Hq → RS) : RS := match r with
  | .ok a h => f a h
  | .exc c h => .exc c s h
  | .bad => .bad
def RS.seq (r : RS) (f : Sto → Hq → RS) : RS := match r with
  | .nx s h => f s h
  | r => r
def asgTg (G : Gam) (t : Tg) (w : W) (s : Sto) (h : Hq) : RS := match t with
  | .t t => match asgT t w s with
    | some s' => .nx s' h
    | none => .bad
  | .sub o i => (evE G o s h).toS s fun x h => (evE G i s h).toS s fun y h => match x with
    | .ref n => match h[n]?, y with
      | some (.lst ws), .int k => match ixN ws.length k with
        | some j => .nx s (h.set n (.lst (ws.set j w)))
        | none => .bad
      | some (.dct kvs), y => match keyOf? y with
        | some k => if kvs.length < line then .nx s (h.set n (.dct (putKW kvs k w))) else .bad
        | none => .bad
      | _, _ => .bad
    | _ => .bad
  | .attr o f => (evE G o s h).toS s fun x h => match mIns h x with
    | some (i, c, fs) => if fs.length < 1000 then .nx s (h.set i (.ins c (putW f w fs))) else .bad
    | none => .bad
def forLoop (t : T) (body : Sto → Hq → RS) : List W → Sto → Hq → RS
  | [], s, h => .nx s h
  | w :: ws, s, h => match asgT t w s with
    | some s' => match body s' h with
      | .nx s h => forLoop t body ws s h
      | .ct s h => forLoop t body ws s h
      | .bk s h => .nx s h
      | r => r
    | none => .bad
def whLoop (c : Sto → Hq → R Bool) (body : Sto → Hq → RS) : Nat → Sto → Hq → RS
  | 0, _, _ => .bad
  | n + 1, s, h => (c s h).toS s fun b h => match b with
    | true => match body s h with
      | .nx s h => whLoop c body n s h
      | .ct s h => whLoop c body n s h
      | .bk s h => .nx s h
      | r => r
    | false => .nx s h
mutual
def evS (G : Gam) : S → Sto → Hq → RS
  | .ret e, s, h => (evE G e s h).toS s fun w h => .rt w h
  | .retN, _, h => .rt .non h
  | .asg t e, s, h => (evE G e s h).toS s fun w h => asgTg G t w s h
  | .aug i o e, s, h => match s[i]? with
    | some (some x) => (evE G e s h).toS s fun y h => match x, y with
      | .int a, .int b => match binW o (.int a) (.int b) with
        | some z => .nx (s.set i (some z)) h
        | none => .bad
      | _, _ => .bad
    | _ => .bad
  | .ife c a b, s, h => (tstR (evE G c s h)).toS s fun k h => match k with
    | true => evSs G a s h
    | false => evSs G b s h
  | .forS t k its body, s, h => (evEs G its s h).toS s fun ws h => match itemsW k ws with
    | some xs => forLoop t (fun s h => evSs G body s h) xs s h
    | none => .bad
  | .whileS c body, s, h => whLoop (fun s h => tstR (evE G c s h)) (fun s h => evSs G body s h) G.fuel s h
  | .expr e, s, h => (evE G e s h).toS s fun _ h => .nx s h
  | .raise_ c, s, h => .exc c s h
  | .pass_, s, h => .nx s h
  | .cont, s, h => .ct s h
  | .brk, s, h => .bk s h
def evSs (G : Gam) : Ss → Sto → Hq → RS
  | .nil, s, h => .nx s h
  | .cons a b, s, h => (evS G a s h).seq fun s h => evSs G b s h
end
/-- a def: its parameters, how many slots, its body -/
structure Fd where
  np : Nat
  ns : Nat
  body : Ss
def runB (G : Gam) (fd : Fd) (ws : List W) (h : Hq) : R W := if ws.length = fd.np then (match evSs G fd.body (ws.map some ++ List.replicate (fd.ns - ws.length) none) h with
    | .rt w h => .ok w h
    | .nx _ h => .ok .non h
    | .exc c _ h => .exc c h
    | _ => .bad) else .bad
def runF (G : Gam) (fd : Fd) (ws : List W) (h : Hq) : R W := exit1 h (runB G fd ws h)
/-- a program: its defs, its classes' methods, its constants -/
structure Prog where
  fns : List (Str × Fd)
  mts : List ((Str × Str) × Fd)
  con : List (Str × W)
  fuel : Nat
def gam (P : Prog) : Nat → Gam
  | 0 => ⟨fun x => P.con.lookup x, fun _ _ _ => .bad, fun _ _ _ _ => .bad, P.fuel⟩
  | n + 1 => ⟨fun x => P.con.lookup x, fun f ws h => match P.fns.lookup f with
      | some fd => runF (gam P n) fd ws h
      | none => .bad,
    fun c m ws h => match P.mts.lookup (c, m) with
      | some fd => runF (gam P n) fd ws h
      | none => .bad, P.fuel⟩
/-! ### a comprehension's turn -/
def lcF (G : Gam) (t : T) (vs : List Nat) (cond : Eo) (elt : E) (s : Sto) : W → Hq → R (Option W) := fun w h => match asgT t w (wipeS s vs) with
  | some s' => (evEc G cond s' h).bind fun b h => match b with
    | true => (MP.noExc (evE G elt s' h)).bind fun y h => .ok (some y) h
    | false => .ok none h
  | none => .bad
section
variable {G : Gam}
def lcF2 (G : Gam) (t : T) (vs vs1 : List Nat) (it1 : E) (t1 : T) (elt : E) (s : Sto) : W → List W → Hq → R (List W) := fun w acc h => match asgT t w (wipeS s vs) with
  | some s' => (MP.noExc (evE G it1 s' h)).bind fun v h => match itemsW .one [v] with
    | some zs => lcLoop (lcF G t1 vs1 .no elt s') zs acc h
    | none => .bad
  | none => .bad
theorem lcF_no {t : T} {vs : List Nat} {elt : E} {s : Sto} : lcF G t vs .no elt s = fun w h => match asgT t w (wipeS s vs) with
    | some s2 => (MP.noExc (evE G elt s2 h)).bind fun y h => .ok (some y) h
    | none => .bad := by
  funext w h
  unfold lcF
  cases asgT t w (wipeS s vs) with
  | none => rfl
  | some s' => simp only [evEc]; rfl
end
/-! ### texts in order -/
theorem strLe_trans {a b c : Str} (h1 : strLe a b = true) (h2 : strLe b c = true) : strLe a c = true := by
  unfold strLe at *
  exact decide_eq_true (List.le_trans (of_decide_eq_true h1) (of_decide_eq_true h2))
theorem strLe_total (a b : Str) : (strLe a b || strLe b a) = true := by
  unfold strLe
  rcases List.le_total a.cps.toList b.cps.toList with h | h <;> simp [h]
theorem strLe_anti {a b : Str} (h1 : strLe a b = true) (h2 : strLe b a = true) : a = b := by
  unfold strLe at *
  exact PySem.W.str_of_cps (List.le_antisymm (of_decide_eq_true h1) (of_decide_eq_true h2))
/-- equal members, no doubles: one sorted list -/
theorem sort_eq {a b : List Str} (ha : a.Nodup) (hb : b.Nodup) (h : ∀ x, x ∈ a ↔ x ∈ b) : a.mergeSort strLe = b.mergeSort strLe := by
  have pab : a.Perm b := (List.perm_ext_iff_of_nodup ha hb).mpr h
  have p := ((List.mergeSort_perm a strLe).trans pab).trans (List.mergeSort_perm b strLe).symm
  have tr : ∀ a b c : Str, strLe a b = true → strLe b c = true → strLe a c = true := fun _ _ _ => strLe_trans
  exact p.eq_of_pairwise (fun x y _ _ h1 h2 => strLe_anti h1 h2) (List.pairwise_mergeSort tr strLe_total a) (List.pairwise_mergeSort tr strLe_total b)
theorem nodup_eraseN : ∀ (n : Nat) (xs : List Str), xs.length ≤ n → xs.eraseDups.Nodup
  | _, [], _ => by simp
  | 0, _ :: _, h => by simp at h
  | n + 1, a :: as, h => by
    rw [List.eraseDups_cons, List.nodup_cons]
    refine ⟨fun hm => ?_, nodup_eraseN n _ ?_⟩
    · rw [List.mem_eraseDups, List.mem_filter] at hm
      simp at hm
    · have := List.length_filter_le (fun b => !b == a) as
      simp at h
      omega
theorem nodup_eraseDups (xs : List Str) : xs.eraseDups.Nodup := nodup_eraseN xs.length xs (Nat.le_refl _)
end MP
set_option Elab.async false
set_option linter.all false
set_option maxRecDepth 100000
set_option maxHeartbeats 1000000
/-! MP3: the readings; the checker. -/
namespace MP
open PySem PySem.Spec PyProof.Rows L2

/-! ### slots -/
def RSt (K : PySem.W.Frag) (H : Hp) (ρ : Rho) (s : Sto) (σ : L2.St) : Prop :=
  s.length = σ.length ∧ ∀ (i : Nat) (w : W), s[i]? = some (some w) → ∃ v, σ[i]? = some (some v) ∧ RW K H ρ w v
section
variable {K : PySem.W.Frag} {cA : Str → Addr} {H H' H1 : Hp} {ρ ρ' ρ1 : Rho} {s : Sto} {σ : L2.St} {h h' : Hq}
theorem RSt.mono (r : RSt K H ρ s σ) (e : Ext H ρ H' ρ') (t : TupOk H ρ) : RSt K H' ρ' s σ := ⟨r.1, fun i w hw => by
  obtain ⟨v, h1, h2⟩ := r.2 i w hw
  exact ⟨v, h1, h2.mono e t⟩⟩
theorem RSt.set (r : RSt K H ρ s σ) {i : Nat} {w : W} {v : V} (rw : RW K H ρ w v) : RSt K H ρ (s.set i (some w)) (σ.set i (some v)) := ⟨by simp [r.1], fun j u hu => by
  by_cases q : i = j
  · subst q
    by_cases hl : i < s.length
    · rw [List.getElem?_set_self hl] at hu
      cases hu
      exact ⟨v, by rw [List.getElem?_set_self (by rw [← r.1]; exact hl)], rw⟩
    · rw [List.getElem?_eq_none (by simp; omega)] at hu; cases hu
  · rw [List.getElem?_set_ne q] at hu ⊢
    exact r.2 j u hu⟩
theorem RSt.none (r : RSt K H ρ s σ) {i : Nat} : RSt K H ρ (s.set i none) (σ.set i none) := ⟨by simp [r.1], fun j u hu => by
  by_cases q : i = j
  · subst q
    by_cases hl : i < s.length
    · rw [List.getElem?_set_self hl] at hu; cases hu
    · rw [List.getElem?_eq_none (by simp; omega)] at hu; cases hu
  · rw [List.getElem?_set_ne q] at hu ⊢
    exact r.2 j u hu⟩
theorem RSt.wipe (r : RSt K H ρ s σ) : ∀ vs : List Nat, RSt K H ρ (wipeS s vs) (wipe σ vs)
  | [] => r
  | v :: vs => (RSt.wipe r vs).none

/-! ### outcomes -/
variable (K cA) (W' : WX)
def OutE {α : Type} (σ : L2.St) (H : Hp) (ρ : Rho) (r : R α) (q : α → Hq → Hp → Rho → Prop) : Prop := match r with
  | .ok a h' => ∀ H' ρ', Rep K cA ρ' h' H' → Ext H ρ H' ρ' → q a h' H' ρ'
  | .exc c h' => ∀ H' ρ', Rep K cA ρ' h' H' → Ext H ρ H' ρ' → W' (.ref (cA c)) none σ H'
  | .bad => False
variable {K cA W'}
theorem OutE.ext {α : Type} {r : R α} {q : α → Hq → Hp → Rho → Prop} (o : OutE K cA W' σ H ρ r q) (e : Ext H ρ H1 ρ1) : OutE K cA W' σ H1 ρ1 r q := by
  cases r with
  | ok a h => exact fun H' ρ' r e' => o H' ρ' r (e.trans e')
  | exc c h => exact fun H' ρ' r e' => o H' ρ' r (e.trans e')
  | bad => exact o
theorem OutE.bind {α β : Type} {r : R α} {f : α → Hq → R β} {q : β → Hq → Hp → Rho → Prop} (o : OutE K cA W' σ H ρ (r.bind f) q) :
    OutE K cA W' σ H ρ r fun a h1 H1 ρ1 => OutE K cA W' σ H1 ρ1 (f a h1) q := by
  cases r with
  | ok a h => exact fun H1 ρ1 _ e => OutE.ext (show OutE K cA W' σ H ρ (f a h) q from o) e
  | exc c h => exact o
  | bad => exact o
theorem OutE.imp {α : Type} {r : R α} {q q' : α → Hq → Hp → Rho → Prop} (o : OutE K cA W' σ H ρ r q) (f : ∀ a h' H' ρ', r = .ok a h' → Rep K cA ρ' h' H' → Ext H ρ H' ρ' → q a h' H' ρ' → q' a h' H' ρ') : OutE K cA W' σ H ρ r q' := by
  cases r with
  | ok a h => exact fun H' ρ' r e => f a h H' ρ' rfl r e (o H' ρ' r e)
  | exc c h => exact o
  | bad => exact o
theorem OutE.opt {α : Type} {o : Option α} {q : α → Hq → Hp → Rho → Prop} (x : OutE K cA W' σ H ρ (optR o h) q) : ∃ a, o = some a ∧ ∀ H' ρ', Rep K cA ρ' h H' → Ext H ρ H' ρ' → q a h H' ρ' := by
  cases o with
  | none => exact x.elim
  | some a => exact ⟨a, rfl, x⟩

variable (K cA) (W' : WX)
def rdE (m : Sto → Hq → R W) : TE := fun σ H Q => ∃ s h ρ, Rep K cA ρ h H ∧ RSt K H ρ s σ ∧ OutE K cA W' σ H ρ (m s h) fun w _ H' ρ' => ∀ v, RW K H' ρ' w v → Q v H'
def rdT (m : Sto → Hq → R Bool) : TT := fun σ H Q => ∃ s h ρ, Rep K cA ρ h H ∧ RSt K H ρ s σ ∧ OutE K cA W' σ H ρ (m s h) fun b _ H' _ => Q b H'
def rdA (m : Sto → Hq → R (List W)) : TA := fun σ H Q => ∃ s h ρ, Rep K cA ρ h H ∧ RSt K H ρ s σ ∧ OutE K cA W' σ H ρ (m s h) fun ws _ H' ρ' => ∀ vs, RWs K H' ρ' ws vs → Q vs H'
def rdO (m : Sto → Hq → R (Option Int)) : TO := fun σ H Q => ∃ s h ρ, Rep K cA ρ h H ∧ RSt K H ρ s σ ∧ OutE K cA W' σ H ρ (m s h) fun o _ H' _ => Q o H'
def OutS (σ : L2.St) (H : Hp) (ρ : Rho) (r : RS) (D : Ends) : Prop := match r with
  | .nx s h' => ∀ σ' H' ρ', Rep K cA ρ' h' H' → Ext H ρ H' ρ' → RSt K H' ρ' s σ' → D.nx σ' H'
  | .rt w h' => ∀ H' ρ', Rep K cA ρ' h' H' → Ext H ρ H' ρ' → ∀ v, RW K H' ρ' w v → D.rt v H'
  | .bk s h' => ∀ σ' H' ρ', Rep K cA ρ' h' H' → Ext H ρ H' ρ' → RSt K H' ρ' s σ' → D.bk σ' H'
  | .ct s h' => ∀ σ' H' ρ', Rep K cA ρ' h' H' → Ext H ρ H' ρ' → RSt K H' ρ' s σ' → D.ct σ' H'
  | .exc c s h' => ∀ σ' H' ρ', Rep K cA ρ' h' H' → Ext H ρ H' ρ' → RSt K H' ρ' s σ' → W' (.ref (cA c)) none σ' H'
  | .bad => False
def rdS (m : Sto → Hq → RS) : TS := fun D σ H => ∃ s h ρ, Rep K cA ρ h H ∧ RSt K H ρ s σ ∧ OutS K cA W' σ H ρ (m s h) D
variable {K cA W'}
end

theorem PE.weak {X : Cx} {e : Expr} {t t' : TE} (p : PE X e t) (f : ∀ σ H Q, t' σ H Q → t σ H Q) : PE X e t' := ⟨fun pins s σ H Q I h => p.run pins s σ H Q I (f σ H Q h)⟩
theorem PT.weak {X : Cx} {e : Expr} {t t' : TT} (p : PT X e t) (f : ∀ σ H Q, t' σ H Q → t σ H Q) : PT X e t' := ⟨fun pins s σ H Q I h => p.run pins s σ H Q I (f σ H Q h)⟩
theorem PW.weak {X : Cx} {e : Expr} {t t' : TT} (p : PW X e t) (f : ∀ σ H Q, t' σ H Q → t σ H Q) : PW X e t' := ⟨fun w pins s σ H Q I h => p.run w pins s σ H Q I (f σ H Q h)⟩
theorem PA.weak {X : Cx} {es : List Expr} {t t' : TA} (p : PA X es t) (f : ∀ σ H Q, t' σ H Q → t σ H Q) : PA X es t' := ⟨fun pos pins s σ H Q I h => p.run pos pins s σ H Q I (f σ H Q h)⟩
theorem PS.weak {X : Cx} {e : Stmt} {t t' : TS} (p : PS X e t) (f : ∀ D σ H, t' D σ H → t D σ H) : PS X e t' := ⟨fun pins s σ H Q I h => p.run pins s σ H Q I (f Q σ H h)⟩
theorem PSs.weak {X : Cx} {e : List Stmt} {t t' : TS} (p : PSs X e t) (f : ∀ D σ H, t' D σ H → t D σ H) : PSs X e t' := ⟨fun pins s σ H Q I h => p.run pins s σ H Q I (f Q σ H h)⟩
theorem OpR.weak {X : Cx} {f : Value → Value → Sem Value} {r r' : R2} (p : OpR X f r) (q : ∀ x y H Q, r' x y H Q → r x y H Q) : OpR X f r' := fun pins s σ H x y v u Q I a b h => p pins s σ H x y v u Q I a b (q _ _ _ _ h)

/-! ### the static side -/
structure SC where
  N : List Str
  sc : Scope
  fn : Str → Bool
  fns : List Str
  exs : List Str
def nameAt (c : SC) (i : Nat) (x : Str) : Bool := decide (c.N[i]? = some x)
def visB (sc : Scope) (x : Str) : Bool := match sc.names.lookup x with
  | some .local => true | some .cell => true | some .free => true | _ => false
def locB (c : SC) (x : Str) : Bool := match c.sc.names.lookup x with
  | some .local => true | some .cell => c.fn x | _ => false
def glB (sc : Scope) (x : Str) : Bool := match sc.names.lookup x with
  | some .globalImplicit => true | _ => false
def plN (x : Str) : Bool := !(x == ("__debug__" : Str)) && (!(x == ("__classdict__" : Str)) && !decide (x = "__name__"))
def nst : Expr → Bool
  | .Starred .. => false | _ => true
def nstL : List Expr → Bool
  | [] => true
  | e :: es => nst e && nstL es
def nsl : Expr → Bool
  | .Slice .. => false | _ => true
def nset : Expr → Bool
  | .Set .. => false | _ => true
def baseOk : Expr → Bool
  | .Call (.Name _ _) [] [] _ => false | _ => true
def Bop.is : Bop → Operator → Bool
  | .add, .Add => true | .sub, .Sub => true | .mul, .Mult => true | .fdiv, .FloorDiv => true | .mod, .Mod => true | .pow, .Pow => true | _, _ => false
def Cop.is : Cop → CmpOp → Bool
  | .eq, .Eq => true | .ne, .NotEq => true | .lt, .Lt => true | .le, .LtE => true | .gt, .Gt => true | .ge, .GtE => true | .isin, .In => true | .notin, .NotIn => true | .isn, .Is => true | .notn, .IsNot => true | _, _ => false
def Bf.nm : Bf → Str
  | .len => "len" | .tuple_ => "tuple" | .list_ => "list" | .int_ => "int" | .str_ => "str" | .abs_ => "abs" | .all_ => "all" | .any_ => "any" | .sorted_ => "sorted" | .max1 => "max" | .min1 => "min"
def Bf2.nm : Bf2 → Str
  | .max2 => "max" | .min2 => "min"
def gname (c : SC) (x : Str) : Expr → Bool
  | .Name y _ => decide (y = x) && (glB c.sc x && plN x)
  | _ => false
def Es.len : Es → Nat
  | .nil => 0
  | .cons _ es => es.len + 1
def cstB : W → Const → Bool
  | .int i, .int j => decide (i = j)
  | .str s, .str t => decide (s = t)
  | .bl a, .bool b => a == b
  | .non, .none => true
  | _, _ => false
end MP
set_option Elab.async false
set_option linter.all false
set_option maxRecDepth 100000
set_option maxHeartbeats 1000000
/-! MP4: the operators by values, over what represents them. -/
namespace MP
open PySem PySem.Spec PyProof.Rows L2
variable {K : PySem.W.Frag} {cA : Str → Addr} {H H' H1 : Hp} {ρ ρ' ρ1 : Rho} {s : Sto} {σ : L2.St} {h h' : Hq} {w : W} {v : V}

/-! ### seeing a value -/
theorem vw_lst {ws : List W} (e : vw h w = .lst ws) (r : Rep K cA ρ h H) (q : RW K H ρ w v) : ∃ a vs, v = .ref a ∧ H a = some (.lst vs) ∧ RWs K H ρ ws vs := by
  cases q with
  | lst ha n rs => cases e; exact ⟨_, _, rfl, ha, rs⟩
  | ref hi hv =>
    rename_i i o
    unfold vw at e
    simp only at e
    have hl := (List.getElem?_eq_some_iff.mp hi).1
    rw [r.len] at hl
    have hh : h[i]? = some h[i] := List.getElem?_eq_getElem hl
    rw [hh] at e
    cases z : h[i] with
    | lst xs =>
      rw [z] at e
      simp only at e
      cases e
      obtain ⟨a, ha⟩ := r.live i _ hh (by rw [z]; exact fun x => nomatch x)
      rw [hi] at ha
      have q := r.obj i _ a hh (by rw [hi, ha])
      rw [z] at q
      obtain ⟨vs, q1, q2⟩ := q
      exact ⟨a, vs, hv a (Option.some.inj ha), q1, q2⟩
    | dct xs => rw [z] at e; cases e
    | ins c fs => rw [z] at e; cases e
    | dead => rw [z] at e; cases e
  | _ => cases e
theorem vw_dct {ws : List (Key × W)} (e : vw h w = .dct ws) (r : Rep K cA ρ h H) (q : RW K H ρ w v) : ∃ a vs, v = .ref a ∧ H a = some (.dK vs) ∧ RWk K H ρ ws vs := by
  cases q with
  | dct ha n rs => cases e; exact ⟨_, _, rfl, ha, rs⟩
  | ref hi hv =>
    rename_i i o
    unfold vw at e
    simp only at e
    have hl := (List.getElem?_eq_some_iff.mp hi).1
    rw [r.len] at hl
    have hh : h[i]? = some h[i] := List.getElem?_eq_getElem hl
    rw [hh] at e
    cases z : h[i] with
    | dct xs =>
      rw [z] at e
      simp only at e
      cases e
      obtain ⟨a, ha⟩ := r.live i _ hh (by rw [z]; exact fun x => nomatch x)
      rw [hi] at ha
      have q := r.obj i _ a hh (by rw [hi, ha])
      rw [z] at q
      obtain ⟨vs, q1, q2⟩ := q
      exact ⟨a, vs, hv a (Option.some.inj ha), q1, q2⟩
    | lst xs => rw [z] at e; cases e
    | ins c fs => rw [z] at e; cases e
    | dead => rw [z] at e; cases e
  | _ => cases e
theorem vw_tup {ws : List W} (e : vw h w = .tup ws) (q : RW K H ρ w v) : ∃ a vs, v = .ref a ∧ H a = some (.tup vs) ∧ RWs K H ρ ws vs := by
  cases q with
  | tup ha rs => cases e; exact ⟨_, _, rfl, ha, rs⟩
  | ref hi hv =>
    unfold vw at e
    simp only at e
    split at e <;> cases e
  | _ => cases e
theorem vw_scr {ns : List Int} (e : vw h w = .scr ns) (q : RW K H ρ w v) : ∃ a, v = .ref a ∧ SqL K H a (ns.map V.int) := by
  cases q with
  | scrF ha n => cases e; exact ⟨_, rfl, .inl (.inr ⟨_, ha⟩)⟩
  | scrK ha => cases e; exact ⟨_, rfl, .inr ha⟩
  | ref hi hv =>
    unfold vw at e
    simp only at e
    split at e <;> cases e
  | _ => cases e
theorem vw_int {i : Int} (e : vw h w = .int i) (q : RW K H ρ w v) : v = .int i := by
  cases q with
  | int => cases e; rfl
  | ref hi hv => unfold vw at e; simp only at e; split at e <;> cases e
  | _ => cases e
theorem vw_str {i : Str} (e : vw h w = .str i) (q : RW K H ρ w v) : v = .str i := by
  cases q with
  | str => cases e; rfl
  | ref hi hv => unfold vw at e; simp only at e; split at e <;> cases e
  | _ => cases e
theorem vw_bl {i : Bool} (e : vw h w = .bl i) (q : RW K H ρ w v) : v = .bl i := by
  cases q with
  | bl => cases e; rfl
  | ref hi hv => unfold vw at e; simp only at e; split at e <;> cases e
  | _ => cases e
theorem vw_non (e : vw h w = .non) (q : RW K H ρ w v) : v = .non := by
  cases q with
  | non => rfl
  | ref hi hv => unfold vw at e; simp only at e; split at e <;> cases e
  | _ => cases e
theorem not_vw_ref {i : Nat} (e : vw h w = .ref i) : w = .ref i := by
  unfold vw at e
  split at e
  · split at e <;> first | exact e | cases e
  · exact e

/-! ### pure data, to the library's -/
mutual
theorem RW.dp : ∀ {w : W} {v : V}, RW K H ρ w v → w.d.canLay0 = true → Dp K H v w.d
  | _, _, .non, _ => by simpa [W.d] using Dp.non
  | _, _, .bl b, _ => by simpa [W.d] using Dp.bl b
  | _, _, .int i, _ => by simpa [W.d] using Dp.int i
  | _, _, .str x, _ => by simpa [W.d] using Dp.str x
  | _, _, .tup h r, c => by
    simp only [W.d, PyData.canLay0] at c ⊢
    exact .tup (SqT.of h) (RWs.dp r c)
  | _, _, .lst h n r, c => by
    simp only [W.d, PyData.canLay0] at c ⊢
    exact .lst (SqL.of h) (RWs.dp r c)
  | _, _, .dct h n r, c => by simp [W.d, PyData.canLay0] at c
  | _, _, .ref h n, c => by simp [W.d, PyData.canLay0] at c
  | _, _, .scrF h n, c => by simp [W.d, PyData.canLay0] at c
  | _, _, .scrK h, c => by simp [W.d, PyData.canLay0] at c
theorem RWs.dp : ∀ {ws : List W} {vs : List V}, RWs K H ρ ws vs → PyData.canLayAll0 (W.ds ws) = true → DpAll K H vs (W.ds ws)
  | _, _, .nil, _ => by simpa [W.ds] using DpAll.nil
  | _, _, .cons r s, c => by
    simp only [W.ds, PyData.canLayAll0, Bool.and_eq_true] at c ⊢
    exact .cons (RW.dp r c.1) (RWs.dp s c.2)
end
/-- a seen value as data -/
theorem dp_vw (r : Rep K cA ρ h H) (q : RW K H ρ w v) (c : (vw h w).shp = true) : Dp K H v (vw h w).d := by
  have c0 : (vw h w).d.canLay0 = true := SeqAt.canLay_of_shaped c
  cases e : vw h w with
  | lst ws =>
    rw [e] at c0
    obtain ⟨a, vs, rfl, ha, rs⟩ := vw_lst e r q
    simp only [W.d, PyData.canLay0] at c0 ⊢
    exact .lst (SqL.of ha) (rs.dp c0)
  | tup ws =>
    rw [e] at c0
    obtain ⟨a, vs, rfl, ha, rs⟩ := vw_tup e q
    simp only [W.d, PyData.canLay0] at c0 ⊢
    exact .tup (SqT.of ha) (rs.dp c0)
  | non => rw [vw_non e q]; simpa [W.d] using Dp.non
  | bl b => rw [vw_bl e q]; simpa [W.d] using Dp.bl b
  | int b => rw [vw_int e q]; simpa [W.d] using Dp.int b
  | str b => rw [vw_str e q]; simpa [W.d] using Dp.str b
  | dct kvs => rw [e] at c0; simp [W.d, PyData.canLay0] at c0
  | ref i => rw [e] at c0; simp [W.d, PyData.canLay0] at c0
  | scr i => rw [e] at c0; simp [W.d, PyData.canLay0] at c0
theorem sizeLine_line : (sizeLine : Nat) = line := by rw [sizeLine_eq]; rfl

/-! ### making new things -/
section
variable {Q : VK}
theorem new_lst {ws : List W} {vs : List V} {p : Addr} (r : Rep K cA ρ h H) (rs : RWs K H ρ ws vs) (hp : H p = none) (q : ∀ H' ρ', Rep K cA ρ' h H' → Ext H ρ H' ρ' → ∀ v, RW K H' ρ' (.lst ws) v → Q v H') : Q (.ref p) (upd H p (.lst vs)) :=
  q _ ρ (r.fresh hp) (Ext.fresh hp) _ (.lst upd_same (r.notTr hp) (rs.mono (Ext.fresh hp) r.tupOk))
theorem new_tup {ws : List W} {vs : List V} {p : Addr} (r : Rep K cA ρ h H) (rs : RWs K H ρ ws vs) (hp : H p = none) (q : ∀ H' ρ', Rep K cA ρ' h H' → Ext H ρ H' ρ' → ∀ v, RW K H' ρ' (.tup ws) v → Q v H') : Q (.ref p) (upd H p (.tup vs)) :=
  q _ ρ (r.fresh hp) (Ext.fresh hp) _ (.tup upd_same (rs.mono (Ext.fresh hp) r.tupOk))
theorem new_dct {ws : List (Key × W)} {vs : List (Key × V)} {p : Addr} (r : Rep K cA ρ h H) (rs : RWk K H ρ ws vs) (hp : H p = none) (q : ∀ H' ρ', Rep K cA ρ' h H' → Ext H ρ H' ρ' → ∀ v, RW K H' ρ' (.dct ws) v → Q v H') : Q (.ref p) (upd H p (.dK vs)) :=
  q _ ρ (r.fresh hp) (Ext.fresh hp) _ (.dct upd_same (r.notTr hp) (rs.mono (Ext.fresh hp) r.tupOk))
theorem new_mlst {ws : List W} {vs : List V} {p : Addr} (r : Rep K cA ρ h H) (rs : RWs K H ρ ws vs) (hp : H p = none) (q : ∀ H' ρ', Rep K cA ρ' (h ++ [.lst ws]) H' → Ext H ρ H' ρ' → ∀ v, RW K H' ρ' (.ref h.length) v → Q v H') : Q (.ref p) (upd H p (.lst vs)) :=
  q _ (ρ ++ [some p]) (r.alloc hp (fun x => nomatch x) ⟨vs, upd_same, rs.mono (Ext.alloc hp) r.tupOk⟩) (Ext.alloc hp) _ (.ref (o := some p) (by rw [← r.len]; simp) fun a e => by rw [Option.some.inj e])
end

/-- what an operator's rule asks -/
def Fin (K : PySem.W.Frag) (cA : Str → Addr) (ρ : Rho) (h : Hq) (H : Hp) (z : W) (Q : VK) : Prop := ∀ H' ρ', Rep K cA ρ' h H' → Ext H ρ H' ρ' → ∀ v, RW K H' ρ' z v → Q v H'
theorem Fin.same {z : W} {Q : VK} (f : Fin K cA ρ h H z Q) (r : Rep K cA ρ h H) {v : V} (q : RW K H ρ z v) : Q v H := f H ρ r Ext.refl v q
def rBin (K : PySem.W.Frag) (cA : Str → Addr) (o : Bop) : R2 := fun x y H Q => ∃ h ρ a b z, Rep K cA ρ h H ∧ RW K H ρ a x ∧ RW K H ρ b y ∧ binW o (vw h a) (vw h b) = some z ∧ Fin K cA ρ h H z Q
def Bop.op : Bop → Operator
  | .add => .Add | .sub => .Sub | .mul => .Mult | .fdiv => .FloorDiv | .mod => .Mod | .pow => .Pow
section
variable {X : Cx}
theorem RWs.ne_nil {ws : List W} {vs : List V} (r : RWs K H ρ ws vs) (h : ws ≠ []) : vs ≠ [] := by
  cases r with
  | nil => exact absurd rfl h
  | cons _ _ => exact fun z => nomatch z
theorem RWs.nil_of {ws : List W} (r : RWs K H ρ ws []) : ws = [] := by
  cases r; rfl
theorem op_binW (o : Bop) : OpR X (binaryOp o.op) (rBin X.K cA o) := by
  cases o with
  | add =>
    intro pins s σ H x y v u Q I rx ry hh
    obtain ⟨h, ρ, a, b, z, rep, ra, rb, e, f⟩ := hh
    cases ea : vw h a with
    | int i =>
      cases eb : vw h b with
      | int j =>
        rw [ea, eb] at e; cases e
        exact op_add pins s σ H x y v u Q I rx ry ⟨i, j, vw_int ea ra, vw_int eb rb, f.same rep (.int _)⟩
      | _ => rw [ea, eb] at e; cases e
    | str i =>
      cases eb : vw h b with
      | str j =>
        rw [ea, eb] at e
        simp only [binW] at e
        split at e
        · rename_i hl
          cases e
          exact op_add_str pins s σ H x y v u Q I rx ry ⟨i, j, vw_str ea ra, vw_str eb rb, by rw [sizeLine_line]; exact hl, f.same rep (.str _)⟩
        · cases e
      | _ => rw [ea, eb] at e; cases e
    | tup i =>
      cases eb : vw h b with
      | tup j =>
        rw [ea, eb] at e
        simp only [binW] at e
        split at e
        · rename_i hl
          cases e
          obtain ⟨p, vs, rfl, hp, rs⟩ := vw_tup ea ra
          obtain ⟨p', vs', rfl, hp', rs'⟩ := vw_tup eb rb
          refine op_catA pins s σ H _ _ v u Q I rx ry ⟨p, p', vs, vs', rfl, rfl, SqT.of hp, SqT.of hp', by rw [sizeLine_line, ← rs.length, ← rs'.length]; exact hl, fun z => ?_, fun z1 z2 => ?_, fun z1 z2 p'' hp'' => ?_⟩
          · subst z
            have := rs.nil_of
            subst this
            exact f.same rep (.tup hp' rs')
          · subst z2
            have := rs'.nil_of
            subst this
            rw [List.append_nil] at f
            exact f.same rep (.tup hp rs)
          · exact new_tup rep (rs.append rs') hp'' f
        · cases e
      | _ => rw [ea, eb] at e; cases e
    | lst i =>
      cases eb : vw h b with
      | lst j =>
        rw [ea, eb] at e
        simp only [binW] at e
        split at e
        · rename_i hl
          cases e
          obtain ⟨p, vs, rfl, hp, rs⟩ := vw_lst ea rep ra
          obtain ⟨p', vs', rfl, hp', rs'⟩ := vw_lst eb rep rb
          exact op_cat pins s σ H _ _ v u Q I rx ry ⟨p, p', vs, vs', rfl, rfl, hp, hp', by rw [sizeLine_line, ← rs.length, ← rs'.length]; exact hl, fun p'' hp'' => new_lst rep (rs.append rs') hp'' f⟩
        · cases e
      | _ => rw [ea, eb] at e; cases e
    | _ => rw [ea] at e; cases eb : vw h b <;> rw [eb] at e <;> cases e
  | sub =>
    intro pins s σ H x y v u Q I rx ry hh
    obtain ⟨h, ρ, a, b, z, rep, ra, rb, e, f⟩ := hh
    cases ea : vw h a <;> cases eb : vw h b <;> rw [ea, eb] at e <;> try (cases e; done)
    cases e
    exact op_sub pins s σ H x y v u Q I rx ry ⟨_, _, vw_int ea ra, vw_int eb rb, f.same rep (.int _)⟩
  | mul =>
    intro pins s σ H x y v u Q I rx ry hh
    obtain ⟨h, ρ, a, b, z, rep, ra, rb, e, f⟩ := hh
    cases ea : vw h a <;> cases eb : vw h b <;> rw [ea, eb] at e <;> try (cases e; done)
    · simp only [binW] at e
      split at e
      · rename_i hc
        cases e
        simp only [Bool.or_eq_true, Bool.and_eq_true, decide_eq_true_eq] at hc
        exact op_mul pins s σ H x y v u Q I rx ry ⟨_, _, vw_int ea ra, vw_int eb rb, hc, f.same rep (.int _)⟩
      · cases e
    · rename_i st j
      simp only [binW] at e
      have hx := vw_str ea ra
      have hy := vw_int eb rb
      subst hx hy
      obtain ⟨t, rfl⟩ := rx
      obtain ⟨t', rfl⟩ := ry
      split at e
      · rename_i hc
        cases e
        have hj : j = 0 := of_decide_eq_true hc
        subst hj
        exact PySem.P.mul_str_none (by decide) (by decide) ⟨.str Str.empty, H, I.tok _, ⟨_, rfl⟩, f.same rep (.str _)⟩
      · split at e
        · rename_i hc
          cases e
          have hj : j = 1 := of_decide_eq_true hc
          subst hj
          exact PySem.P.mul_str (by decide) (fun _ h => absurd h (by simp)) (fun _ h => absurd h (by simp)) (by rw [if_neg (by decide), if_pos (by simp)]; exact ⟨.str st, H, I, ⟨_, rfl⟩, f.same rep (.str _)⟩)
        · cases e
    · simp only [binW] at e
      split at e
      · rename_i hc
        cases e
        simp only [Bool.and_eq_true, decide_eq_true_eq, Bool.not_eq_true', List.isEmpty_eq_false_iff] at hc
        obtain ⟨⟨⟨c1, c2⟩, c3⟩, c4⟩ := hc
        obtain ⟨p, vs, rfl, hp, rs⟩ := vw_tup ea ra
        exact op_repT pins s σ H _ y v u Q I rx ry ⟨p, _, vs, rfl, vw_int eb rb, SqT.of hp, rs.ne_nil c1, c2, c3, by rw [← rs.length]; exact c4, fun p' hp' => new_tup rep (rs.rep _) hp' f⟩
      · cases e
  | fdiv =>
    intro pins s σ H x y v u Q I rx ry hh
    obtain ⟨h, ρ, a, b, z, rep, ra, rb, e, f⟩ := hh
    cases ea : vw h a <;> cases eb : vw h b <;> rw [ea, eb] at e <;> try (cases e; done)
    simp only [binW] at e
    split at e
    · rename_i hc
      cases e
      simp only [Bool.and_eq_true, decide_eq_true_eq] at hc
      exact op_fdiv pins s σ H x y v u Q I rx ry ⟨_, _, vw_int ea ra, vw_int eb rb, hc, f.same rep (.int _)⟩
    · cases e
  | mod =>
    intro pins s σ H x y v u Q I rx ry hh
    obtain ⟨h, ρ, a, b, z, rep, ra, rb, e, f⟩ := hh
    cases ea : vw h a <;> cases eb : vw h b <;> rw [ea, eb] at e <;> try (cases e; done)
    simp only [binW] at e
    split at e
    · rename_i hc
      cases e
      simp only [decide_eq_true_eq] at hc
      exact op_mod pins s σ H x y v u Q I rx ry ⟨_, _, vw_int ea ra, vw_int eb rb, hc, f.same rep (.int _)⟩
    · cases e
  | pow =>
    intro pins s σ H x y v u Q I rx ry hh
    obtain ⟨h, ρ, a, b, z, rep, ra, rb, e, f⟩ := hh
    cases ea : vw h a <;> cases eb : vw h b <;> rw [ea, eb] at e <;> try (cases e; done)
    simp only [binW] at e
    split at e
    · rename_i hc
      cases e
      simp only [Bool.and_eq_true, decide_eq_true_eq] at hc
      obtain ⟨⟨c1, c2⟩, c3⟩ := hc
      exact op_pow pins s σ H x y v u Q I rx ry ⟨_, _, vw_int ea ra, vw_int eb rb, ⟨c1, c2, c3⟩, f.same rep (.int _)⟩
    · cases e
end
end MP
set_option Elab.async false
set_option linter.all false
set_option maxRecDepth 100000
set_option maxHeartbeats 1000000
/-! MP5: comparisons, items, slices, built-in functions by values. -/
namespace MP
open PySem PySem.Spec PyProof.Rows L2
variable {K : PySem.W.Frag} {cA : Str → Addr} {H H' H1 : Hp} {ρ ρ' ρ1 : Rho} {s : Sto} {σ : L2.St} {h h' : Hq} {w : W} {v : V}

/-! ### dicts -/
theorem RWk.val (k : Key) : ∀ {kvs : List (Key × W)} {kus : List (Key × V)}, RWk K H ρ kvs kus →
    (∀ w, valW kvs k = some w → ∃ v, valV kus k = some v ∧ RW K H ρ w v) ∧ (valW kvs k = none → valV kus k = none)
  | _, _, .nil => ⟨fun w h => by simp [valW] at h, fun _ => rfl⟩
  | (l, u) :: kvs, _, .cons (v := v) (kus := kus) r t => by
    by_cases e : l = k
    · have e1 : valW ((l, u) :: kvs) k = some u := by simp [valW, List.find?_cons, e]
      have e2 : valV ((l, v) :: kus) k = some v := valV_pos e
      refine ⟨fun w h => ?_, fun h => ?_⟩
      · rw [e1] at h; cases h; exact ⟨v, e2, r⟩
      · rw [e1] at h; cases h
    · have e1 : valW ((l, u) :: kvs) k = valW kvs k := by simp [valW, List.find?_cons, e]
      have e2 : valV ((l, v) :: kus) k = valV kus k := valV_neg e
      rw [e1, e2]
      exact RWk.val k t
theorem RWk.isSome (k : Key) {kvs : List (Key × W)} {kus : List (Key × V)} (r : RWk K H ρ kvs kus) : (valW kvs k).isSome = (valV kus k).isSome := by
  obtain ⟨h1, h2⟩ := r.val k
  cases e : valW kvs k with
  | none => rw [h2 e]; rfl
  | some w => obtain ⟨v, q, _⟩ := h1 w e; rw [q]; rfl
theorem RWk.any (k : Key) : ∀ {kvs : List (Key × W)} {kus : List (Key × V)}, RWk K H ρ kvs kus → (kvs.any fun kv => decide (kv.1 = k)) = kus.any fun kv => decide (kv.1 = k)
  | _, _, .nil => rfl
  | _, _, .cons r t => by simp only [List.any_cons]; rw [RWk.any k t]
theorem RWk.app : ∀ {a b : List (Key × W)} {c d : List (Key × V)}, RWk K H ρ a c → RWk K H ρ b d → RWk K H ρ (a ++ b) (c ++ d)
  | _, _, _, _, .nil, s => s
  | _, _, _, _, .cons r t, s => .cons r (RWk.app t s)
theorem RWk.repl (k : Key) {w : W} {v : V} (q : RW K H ρ w v) : ∀ {kvs : List (Key × W)} {kus : List (Key × V)}, RWk K H ρ kvs kus →
    RWk K H ρ (kvs.map fun kv => if kv.1 = k then (kv.1, w) else kv) (kus.map fun kv => if kv.1 = k then (kv.1, v) else kv)
  | _, _, .nil => .nil
  | (l, u) :: kvs, _, .cons r t => by
    by_cases e : l = k
    · simpa [e] using RWk.cons q (RWk.repl k q t)
    · simpa [e] using RWk.cons r (RWk.repl k q t)
theorem RWk.put (k : Key) {w : W} {v : V} (q : RW K H ρ w v) {kvs : List (Key × W)} {kus : List (Key × V)} (r : RWk K H ρ kvs kus) : RWk K H ρ (putKW kvs k w) (putK kus k v) := by
  unfold putKW putK
  rw [← r.any k]
  split
  · exact r.repl k q
  · exact r.app (.cons q .nil)
theorem RWk.drop (k : Key) : ∀ {kvs : List (Key × W)} {kus : List (Key × V)}, RWk K H ρ kvs kus → RWk K H ρ (dropKW kvs k) (dropK kus k)
  | _, _, .nil => .nil
  | (l, u) :: kvs, _, .cons r t => by
    by_cases e : l = k
    · simpa [dropKW, dropK, e] using RWk.drop k t
    · simpa [dropKW, dropK, e] using RWk.cons r (RWk.drop k t)
theorem key_of_W {k : Key} (e : keyOf? w = some k) (q : RW K H ρ w v) : v = kV k := by
  cases q with
  | int => cases e; rfl
  | str => cases e; rfl
  | _ => cases e
theorem keyOf_vw {k : Key} (e : keyOf? (vw h w) = some k) : keyOf? w = some k := by
  unfold vw at e
  split at e
  · split at e <;> cases e
  · exact e

/-! ### comparisons -/
theorem shp_list {x : W} (c : x.shp = true) : SeqAt.shaped x.d = true := c
theorem flatW_of {x : W} (f : flatW x = true) (q : RW K H ρ x v) : flatV v = true := by
  cases q with
  | non => rfl
  | bl => rfl
  | int => rfl
  | str => rfl
  | _ => cases f
theorem eqV_eqv {x y : W} {v u : V} (fx : flatW x = true) (fy : flatW y = true) (q : RW K H ρ x v) (r : RW K H ρ y u) : eqV v u = PyData.eqv x.d y.d := by
  cases q <;> cases r <;> first | (cases fx; done) | (cases fy; done) | (simp [eqV, W.d, PyData.eqv]; done) | rfl
theorem inV_inD {x : W} (fx : flatW x = true) (q : RW K H ρ x v) : ∀ {ws : List W} {vs : List V}, ws.all flatW = true → RWs K H ρ ws vs → inV v vs = inD x ws
  | _, _, _, .nil => rfl
  | _, _, f, .cons r t => by
    simp only [List.all_cons, Bool.and_eq_true] at f
    have ih := inV_inD fx q f.2 t
    unfold inV inD at ih ⊢
    rw [List.any_cons, List.any_cons, ih, eqV_eqv f.1 fx r q]
theorem flat_all : ∀ {ws : List W} {vs : List V}, ws.all flatW = true → RWs K H ρ ws vs → vs.all flatV = true
  | _, _, _, .nil => rfl
  | _, _, f, .cons r t => by
    simp only [List.all_cons, Bool.and_eq_true] at f ⊢
    exact ⟨flatW_of f.1 r, flat_all f.2 t⟩
theorem any_map_d {d : PyData} : ∀ ws : List W, ((W.ds ws).any fun z => PyData.eqv z d) = ws.any fun z => PyData.eqv z.d d
  | [] => by simp [W.ds]
  | w :: ws => by simp [W.ds, any_map_d ws]
def rCmp (K : PySem.W.Frag) (cA : Str → Addr) (o : Cop) : R2 := fun x y H Q => ∃ h ρ a b z, Rep K cA ρ h H ∧ RW K H ρ a x ∧ RW K H ρ b y ∧ cmpW o (vw h a) (vw h b) = some z ∧ Q (.bl z) H
def Cop.op : Cop → CmpOp
  | .eq => .Eq | .ne => .NotEq | .lt => .Lt | .le => .LtE | .gt => .Gt | .ge => .GtE | .isin => .In | .notin => .NotIn | .isn => .Is | .notn => .IsNot
theorem flat_vw {x : W} (f : flatW (vw h x) = true) : vw h x = x := by
  unfold vw at f ⊢
  split
  · rename_i i
    simp only at f
    split at f <;> cases f
  · rfl
theorem op_in_tup {X : Cx} (n : Bool) : OpR X (compareOp (if n then .NotIn else .In)) (rIn X.K n) := by
  cases n
  · exact op_in_seq
  · exact op_notIn_seq
theorem op_in_dct {X : Cx} (hu : X.A.units + 1 < cLine) : OpR X (compareOp .In) (fun x y H Q => ∃ a o, y = .ref a ∧ DGet H a x o ∧ Q (.bl o.isSome) H) := by
  intro pins s σ H x y v u Q I rx ry hh
  obtain ⟨a, o, rfl, g, q⟩ := hh
  cases ry
  exact d_in hu I g rx fun s3 I3 => ⟨.bl o.isSome, H, I3, rfl, q⟩
theorem op_notin_dct {X : Cx} (hu : X.A.units + 1 < cLine) : OpR X (compareOp .NotIn) (fun x y H Q => ∃ a o, y = .ref a ∧ DGet H a x o ∧ Q (.bl (!o.isSome)) H) := by
  intro pins s σ H x y v u Q I rx ry hh
  obtain ⟨a, o, rfl, g, q⟩ := hh
  cases ry
  exact d_notIn hu I g rx fun s3 I3 => ⟨.bl (!o.isSome), H, I3, rfl, q⟩
theorem isNon_of (hr : ¬ isRef (vw h w) = true) (rep : Rep K cA ρ h H) (q : RW K H ρ w v) : decide (v = .non) = isNon (vw h w) := by
  cases e : vw h w with
  | ref i => rw [e] at hr; exact absurd rfl hr
  | non => rw [vw_non e q]; rfl
  | bl b => rw [vw_bl e q]; rfl
  | int b => rw [vw_int e q]; rfl
  | str b => rw [vw_str e q]; rfl
  | lst ws => obtain ⟨a, vs, rfl, _⟩ := vw_lst e rep q; rfl
  | tup ws => obtain ⟨a, vs, rfl, _⟩ := vw_tup e q; rfl
  | dct ws => obtain ⟨a, vs, rfl, _⟩ := vw_dct e rep q; rfl
  | scr ws => obtain ⟨a, rfl, _⟩ := vw_scr e q; rfl
theorem op_cmpW {X : Cx} (hu : X.A.units + 65 < cLine) (o : Cop) : OpR X (compareOp o.op) (rCmp X.K cA o) := by
  have hu1 : X.A.units + 64 < cLine := by omega
  have hu2 : X.A.units + 1 < cLine := by omega
  intro pins s σ H x y v u Q I rx ry hh
  obtain ⟨h, ρ, a, b, z, rep, ra, rb, e, f⟩ := hh
  cases o with
  | eq =>
    simp only [cmpW] at e
    split at e
    · rename_i hc
      cases e
      simp only [Bool.and_eq_true] at hc
      exact op_eqD hu1 pins s σ H x y v u Q I rx ry ⟨_, _, dp_vw rep ra hc.1, dp_vw rep rb hc.2, hc.1, hc.2, f⟩
    · cases e
  | ne =>
    simp only [cmpW] at e
    split at e
    · rename_i hc
      cases e
      simp only [Bool.and_eq_true] at hc
      exact op_neD hu1 pins s σ H x y v u Q I rx ry ⟨_, _, dp_vw rep ra hc.1, dp_vw rep rb hc.2, hc.1, hc.2, f⟩
    · cases e
  | lt =>
    simp only [cmpW] at e
    split at e
    · rename_i i j ea eb
      cases e
      exact op_lt pins s σ H x y v u Q I rx ry ⟨i, j, vw_int ea ra, vw_int eb rb, f⟩
    · rename_i i j ea eb
      cases e
      exact op_lt_str pins s σ H x y v u Q I rx ry ⟨i, j, vw_str ea ra, vw_str eb rb, f⟩
    · cases e
  | le =>
    simp only [cmpW] at e
    split at e
    · rename_i i j ea eb
      cases e
      exact op_le pins s σ H x y v u Q I rx ry ⟨i, j, vw_int ea ra, vw_int eb rb, f⟩
    · cases e
  | gt =>
    simp only [cmpW] at e
    split at e
    · rename_i i j ea eb
      cases e
      exact op_gt pins s σ H x y v u Q I rx ry ⟨i, j, vw_int ea ra, vw_int eb rb, f⟩
    · cases e
  | ge =>
    simp only [cmpW] at e
    split at e
    · rename_i i j ea eb
      cases e
      exact op_ge pins s σ H x y v u Q I rx ry ⟨i, j, vw_int ea ra, vw_int eb rb, f⟩
    · cases e
  | isin =>
    simp only [cmpW] at e
    split at e
    · rename_i ws eb
      split at e
      · rename_i hc
        cases e
        simp only [Bool.and_eq_true] at hc
        have hd := dp_vw rep rb (by rw [eb]; exact hc.2)
        rw [eb] at hd
        simp only [W.d] at hd
        refine op_inD hu pins s σ H x y v u Q I rx ry ⟨_, _, dp_vw rep ra hc.1, hd, hc.1, by simpa [W.shp, W.d] using hc.2, ?_⟩
        rw [any_map_d]
        exact f
      · cases e
    · rename_i ws eb
      split at e
      · rename_i hc
        cases e
        simp only [Bool.and_eq_true] at hc
        have e2 := flat_vw hc.1
        rw [e2] at hc f
        obtain ⟨p, vs, rfl, hp, rs⟩ := vw_tup eb rb
        refine op_in_seq pins s σ H x _ v u Q I rx ry ⟨p, vs, rfl, .inr (SqT.of hp), flatW_of hc.1 ra, flat_all hc.2 rs, ?_⟩
        rw [if_neg (by decide), inV_inD hc.1 ra hc.2 rs]
        exact f
      · cases e
    · rename_i j eb
      split at e
      · rename_i i ea
        cases e
        exact op_in_str pins s σ H x y v u Q I rx ry ⟨i, j, vw_str ea ra, vw_str eb rb, f⟩
      · cases e
    · rename_i kvs eb
      split at e
      · rename_i k ek
        cases e
        obtain ⟨p, kus, rfl, hp, rs⟩ := vw_dct eb rep rb
        have hx := key_of_W (keyOf_vw ek) ra
        subst hx
        refine op_in_dct hu2 pins s σ H _ _ v u Q I rx ry ⟨p, _, rfl, DGet.k hp, ?_⟩
        rw [← rs.isSome k]
        exact f
      · cases e
    · cases e
  | notin =>
    simp only [cmpW] at e
    split at e
    · rename_i ws eb
      split at e
      · rename_i hc
        cases e
        simp only [Bool.and_eq_true] at hc
        have hd := dp_vw rep rb (by rw [eb]; exact hc.2)
        rw [eb] at hd
        simp only [W.d] at hd
        refine op_notInD hu pins s σ H x y v u Q I rx ry ⟨_, _, dp_vw rep ra hc.1, hd, hc.1, by simpa [W.shp, W.d] using hc.2, ?_⟩
        rw [any_map_d]
        exact f
      · cases e
    · rename_i ws eb
      split at e
      · rename_i hc
        cases e
        simp only [Bool.and_eq_true] at hc
        have e2 := flat_vw hc.1
        rw [e2] at hc f
        obtain ⟨p, vs, rfl, hp, rs⟩ := vw_tup eb rb
        refine op_notIn_seq pins s σ H x _ v u Q I rx ry ⟨p, vs, rfl, .inr (SqT.of hp), flatW_of hc.1 ra, flat_all hc.2 rs, ?_⟩
        rw [if_pos rfl, inV_inD hc.1 ra hc.2 rs]
        exact f
      · cases e
    · rename_i j eb
      split at e
      · rename_i i ea
        cases e
        exact op_notIn_str pins s σ H x y v u Q I rx ry ⟨i, j, vw_str ea ra, vw_str eb rb, f⟩
      · cases e
    · rename_i kvs eb
      split at e
      · rename_i k ek
        cases e
        obtain ⟨p, kus, rfl, hp, rs⟩ := vw_dct eb rep rb
        have hx := key_of_W (keyOf_vw ek) ra
        subst hx
        refine op_notin_dct hu2 pins s σ H _ _ v u Q I rx ry ⟨p, _, rfl, DGet.k hp, ?_⟩
        rw [← rs.isSome k]
        exact f
      · cases e
    · cases e
  | isn =>
    simp only [cmpW] at e
    split at e
    · rename_i eb
      split at e
      · cases e
      · rename_i hr
        cases e
        refine op_isN pins s σ H x y v u Q I rx ry ⟨vw_non eb rb, ?_⟩
        rw [isNon_of hr rep ra]
        exact f
    · cases e
  | notn =>
    simp only [cmpW] at e
    split at e
    · rename_i eb
      split at e
      · cases e
      · rename_i hr
        cases e
        refine op_notN pins s σ H x y v u Q I rx ry ⟨vw_non eb rb, ?_⟩
        rw [isNon_of hr rep ra]
        exact f
    · cases e
end MP
set_option Elab.async false
set_option linter.all false
set_option maxRecDepth 100000
set_option maxHeartbeats 1000000
/-! MP6: items, slices, built-in functions by values. -/
namespace MP
open PySem PySem.Spec PyProof.Rows L2
variable {K : PySem.W.Frag} {cA : Str → Addr} {H H' H1 : Hp} {ρ ρ' ρ1 : Rho} {s : Sto} {σ : L2.St} {h h' : Hq} {w : W} {v : V}

/-! ### items -/
theorem RWs.atI {ws : List W} {vs : List V} {i : Int} {w : W} (r : RWs K H ρ ws vs) (e : L2.atI ws i = some w) : ∃ v, L2.atI vs i = some v ∧ RW K H ρ w v := by
  unfold L2.atI at e ⊢
  rw [← r.length]
  cases q : ixN ws.length i with
  | none => rw [q] at e; cases e
  | some j =>
    rw [q] at e
    exact r.get e
theorem atI_map {α β : Type} (f : α → β) (xs : List α) (i : Int) : L2.atI (xs.map f) i = (L2.atI xs i).map f := by
  unfold L2.atI
  rw [List.length_map]
  cases ixN xs.length i with
  | none => rfl
  | some j => simp
theorem ix_dict {X : Cx} (hu : X.A.units + 1 < cLine) : IxR X (fun x y H Q => ∃ a v, x = .ref a ∧ DGet H a y (some v) ∧ Q v H) := by
  intro value slice pins s σ H x y v u Q I rx ry hh hs
  obtain ⟨a, z, rfl, g, q⟩ := hh
  cases rx
  exact tail_any (dict_typeIs I g) PySem.F.slot_dict_getitem.lookup (d_getItem hu I g ry fun w' s3 I3 rw' => ⟨z, H, I3, rw', q⟩) hs
def rIdx (K : PySem.W.Frag) (cA : Str → Addr) : R2 := fun x y H Q => ∃ h ρ a b z, Rep K cA ρ h H ∧ RW K H ρ a x ∧ RW K H ρ b y ∧ idxW (vw h a) b = some z ∧ ∀ v, RW K H ρ z v → Q v H
theorem ix_W {X : Cx} (hu : X.A.units + 1 < cLine) : IxR X (rIdx X.K cA) := by
  intro value slice pins s σ H x y v u Q I rx ry hh hs
  obtain ⟨h, ρ, a, b, z, rep, ra, rb, e, f⟩ := hh
  unfold idxW at e
  split at e
  · rename_i i
    have ey : y = .int i := by cases rb; rfl
    subst ey
    split at e
    · rename_i ws ea
      obtain ⟨p, vs, rfl, hp, rs⟩ := vw_lst ea rep ra
      obtain ⟨vz, h1, h2⟩ := rs.atI e
      exact ix_list value slice pins s σ H _ _ v u Q I rx ry ⟨p, vs, i, vz, rfl, rfl, SqL.of hp, h1, f vz h2⟩ hs
    · rename_i ws ea
      obtain ⟨p, vs, rfl, hp, rs⟩ := vw_tup ea ra
      obtain ⟨vz, h1, h2⟩ := rs.atI e
      exact ix_tup value slice pins s σ H _ _ v u Q I rx ry ⟨p, vs, i, vz, rfl, rfl, SqT.of hp, h1, f vz h2⟩ hs
    · rename_i ns ea
      obtain ⟨p, rfl, hp⟩ := vw_scr ea ra
      cases q : L2.atI ns i with
      | none => rw [q] at e; cases e
      | some n =>
        rw [q] at e
        cases e
        exact ix_list value slice pins s σ H _ _ v u Q I rx ry ⟨p, _, i, .int n, rfl, rfl, hp, by rw [atI_map, q]; rfl, f _ (.int n)⟩ hs
    · rename_i st ea
      split at e
      · rename_i hl
        cases q : L2.atI st.cps.toList i with
        | none => rw [q] at e; cases e
        | some n =>
          rw [q] at e
          cases e
          exact ix_str value slice pins s σ H _ _ v u Q I rx ry ⟨st, i, n, vw_str ea ra, rfl, by rw [sizeLine_line]; exact hl, q, f _ (.str _)⟩ hs
      · cases e
    · rename_i kvs ea
      obtain ⟨p, kus, rfl, hp, rs⟩ := vw_dct ea rep ra
      obtain ⟨vz, h1, h2⟩ := (rs.val _).1 _ e
      exact ix_dict hu value slice pins s σ H _ _ v u Q I rx ry ⟨p, vz, rfl, by rw [← h1]; exact DGet.k (k := .inl i) hp, f vz h2⟩ hs
    · cases e
  · rename_i i
    have ey : y = .str i := by cases rb; rfl
    subst ey
    split at e
    · rename_i kvs ea
      obtain ⟨p, kus, rfl, hp, rs⟩ := vw_dct ea rep ra
      obtain ⟨vz, h1, h2⟩ := (rs.val _).1 _ e
      exact ix_dict hu value slice pins s σ H _ _ v u Q I rx ry ⟨p, vz, rfl, by rw [← h1]; exact DGet.k (k := .inr i) hp, f vz h2⟩ hs
    · cases e
  · cases e

/-! ### slices -/
theorem RWs.cut {ws : List W} {vs : List V} (r : RWs K H ρ ws vs) (lo hi : Option Int) : RWs K H ρ (cutW ws lo hi) (cutV vs lo hi) := by
  unfold cutW cutV
  rw [← r.length]
  exact (r.drop _).take _
def rSlc (K : PySem.W.Frag) (cA : Str → Addr) : V → Option Int → Option Int → Hp → VK → Prop := fun x lo hi H Q => ∃ h ρ a z, Rep K cA ρ h H ∧ RW K H ρ a x ∧ slcW (vw h a) lo hi = some z ∧ Fin K cA ρ h H z Q
theorem cutW_whole {ws : List W} {lo hi : Option Int} (e : HT.sIx ws.length 0 lo = 0 ∧ HT.sIx ws.length ws.length hi = ws.length) : cutW ws lo hi = ws := by
  unfold cutW
  rw [e.1, e.2]
  simp
theorem sl_W {X : Cx} : SlR X (rSlc X.K cA) := by
  intro pins s σ H x v vl vu lo hi sl Q I rx hs pl pu hh
  obtain ⟨h, ρ, a, z, rep, ra, e, f⟩ := hh
  unfold slcW at e
  split at e
  · rename_i ws ea
    cases e
    obtain ⟨p, vs, rfl, hp, rs⟩ := vw_lst ea rep ra
    exact sl_list pins s σ H _ v vl vu lo hi sl Q I rx hs pl pu ⟨p, vs, rfl, SqL.of hp, fun q hq => new_lst rep (rs.cut lo hi) hq f⟩
  · rename_i ws ea
    cases e
    obtain ⟨p, vs, rfl, hp, rs⟩ := vw_tup ea ra
    refine sl_tupA pins s σ H _ v vl vu lo hi sl Q I rx hs pl pu ⟨p, vs, rfl, SqT.of hp, fun q => ?_, fun _ q hq => new_tup rep (rs.cut lo hi) hq f⟩
    rw [← rs.length] at q
    rw [cutW_whole q] at f
    exact f.same rep (.tup hp rs)
  · rename_i st ea
    split at e
    · rename_i hl
      cases e
      exact sl_str pins s σ H x v vl vu lo hi sl Q I rx hs pl pu ⟨st, vw_str ea ra, by rw [sizeLine_line]; exact hl, f.same rep (.str _)⟩
    · cases e
  · cases e

/-! ### functions of one argument -/
def rB1 (K : PySem.W.Frag) (cA : Str → Addr) (g : Bf) : List V → Hp → VK → Prop := fun xs H Q => ∃ x h ρ a z, xs = [x] ∧ Rep K cA ρ h H ∧ RW K H ρ a x ∧ b1W g (vw h a) = some z ∧ Fin K cA ρ h H z Q
theorem bls_of : ∀ {ws : List W} {bs : List Bool} {vs : List V}, blsOf ws = some bs → RWs K H ρ ws vs → vs = bs.map V.bl
  | [], bs, _, e, .nil => by cases e; rfl
  | w :: ws, bs, _, e, .cons r t => by
    cases r with
    | bl b =>
      simp only [blsOf] at e
      cases q : blsOf ws with
      | none => rw [q] at e; cases e
      | some bs' => rw [q] at e; cases e; rw [bls_of q t]; rfl
    | _ => cases e
theorem ints_of : ∀ {ws : List W} {bs : List Int} {vs : List V}, intsOf ws = some bs → RWs K H ρ ws vs → vs = bs.map V.int
  | [], bs, _, e, .nil => by cases e; rfl
  | w :: ws, bs, _, e, .cons r t => by
    cases r with
    | int b =>
      simp only [intsOf] at e
      cases q : intsOf ws with
      | none => rw [q] at e; cases e
      | some bs' => rw [q] at e; cases e; rw [ints_of q t]; rfl
    | _ => cases e
theorem strs_of : ∀ {ws : List W} {bs : List Str} {vs : List V}, strsOf ws = some bs → RWs K H ρ ws vs → vs = bs.map V.str
  | [], bs, _, e, .nil => by cases e; rfl
  | w :: ws, bs, _, e, .cons r t => by
    cases r with
    | str b =>
      simp only [strsOf] at e
      cases q : strsOf ws with
      | none => rw [q] at e; cases e
      | some bs' => rw [q] at e; cases e; rw [strs_of q t]; rfl
    | _ => cases e
theorem rws_strs : ∀ (bs : List Str), RWs K H ρ (bs.map W.str) (bs.map V.str)
  | [] => .nil
  | b :: bs => .cons (.str b) (rws_strs bs)
theorem rws_ints : ∀ (bs : List Int), RWs K H ρ (bs.map W.int) (bs.map V.int)
  | [] => .nil
  | b :: bs => .cons (.int b) (rws_ints bs)

/-- sorted(xs) of texts, any number -/
def isStr (v : Value) (b : Str) : Prop := ∃ t, v = Value.str b t
theorem each_strs : ∀ {us : List Value} {xs : List Str}, Vals (xs.map V.str) us → PySem.W.EachIs isStr us xs
  | _, [], .nil => .nil
  | _, _ :: _, .cons r t => .cons r (each_strs t)
theorem vals_each : ∀ {us : List Value} {xs : List Str}, PySem.W.EachIs isStr us xs → Vals (xs.map V.str) us
  | _, _, .nil => .nil
  | _, _, .cons r t => .cons r (vals_each t)
def rSortStr (K : PySem.W.Frag) : List V → Hp → VK → Prop := fun vs H Q => ∃ (a : Addr) (xs : List Str), vs = [V.ref a] ∧ SqL K H a (xs.map V.str) ∧ ∀ p : Addr, H p = none → Q (.ref p) (upd H p (.lst ((xs.mergeSort strLe).map V.str)))
theorem cr_sortStr {X : Cx} (hu : X.A.units + 65 < cLine) : CallR X (.builtin "sorted") (rSortStr X.K) := by
  intro pins s σ H vs us Q I r hh
  obtain ⟨a, xs, rfl, hs, q⟩ := hh
  obtain ⟨its, rv, hl, hz⟩ := I.list hs
  rw [Vals.ref1 r]
  have hlen0 := rv.length
  rw [List.length_map] at hlen0 hz
  have e := each_strs rv
  have hal : PySem.W.AllAlike (xs.map PyData.str) := fun d hd d' hd' => by
    obtain ⟨x, _, rfl⟩ := List.mem_map.mp hd
    obtain ⟨y, _, rfl⟩ := List.mem_map.mp hd'
    simp [PySem.W.alike]
  have hk : PySem.W.Sortable (xs.map PyData.str) := .inr fun d hd => by
    obtain ⟨x, _, rfl⟩ := List.mem_map.mp hd
    exact ⟨fun z => (nomatch z), fun _ z => (nomatch z)⟩
  refine PySem.W.sorted_data (enc := PyData.str) (R := isStr) (bs := xs) hl.isList e (e.mono fun v b ⟨t, hv⟩ => ⟨_, by rw [hv]; exact Reads.str b t⟩) hal hk hz (fun b _ => by simp only [PyData.depth]; omega) fun out ho he => ?_
  have hle : PySem.W.dataLe false (fun b : Str => PyData.str b) = strLe := PySem.W.dataLe_str (fun b : Str => b)
  have he2 : PySem.W.EachIs isStr out (xs.mergeSort strLe) := by rw [← hle]; exact he
  obtain ⟨ep, he'⟩ := PyProof.Rows.sortedAll_at s.heap its (List.toArray out)
  have hlen : ((xs.mergeSort strLe).map V.str).length ≤ sizeLine := by rw [List.length_map, List.length_mergeSort]; exact hz
  exact ⟨.ref _, upd H (s.heap.objs.size + 1) (.lst ((xs.mergeSort strLe).map V.str)), I.laid (t' := s.toks) (fun _ _ => PyProof.Rows.sortedAll_old) (Nat.le_succ _) ⟨hlen, out, ep, vals_each he2, he'⟩, rfl, q _ (I.hok.fresh (Nat.le_succ _))⟩
theorem foldl_max_mem : ∀ (ns : List Int) (n : Int), ns.foldl max n ∈ n :: ns ∧ ∀ y, y ∈ n :: ns → y ≤ ns.foldl max n
  | [], n => ⟨by simp, by simp⟩
  | m :: ns, n => by
    obtain ⟨h1, h2⟩ := foldl_max_mem ns (max n m)
    simp only [List.foldl_cons]
    refine ⟨?_, fun y hy => ?_⟩
    · simp only [List.mem_cons] at h1 ⊢
      rcases h1 with h1 | h1
      · rw [h1]; omega
      · exact .inr (.inr h1)
    · simp only [List.mem_cons] at hy h2
      have hm := h2 (max n m) (.inl rfl)
      rcases hy with rfl | rfl | hy
      · omega
      · omega
      · exact h2 y (.inr hy)
theorem foldl_min_mem : ∀ (ns : List Int) (n : Int), ns.foldl min n ∈ n :: ns ∧ ∀ y, y ∈ n :: ns → ns.foldl min n ≤ y
  | [], n => ⟨by simp, by simp⟩
  | m :: ns, n => by
    obtain ⟨h1, h2⟩ := foldl_min_mem ns (min n m)
    simp only [List.foldl_cons]
    refine ⟨?_, fun y hy => ?_⟩
    · simp only [List.mem_cons] at h1 ⊢
      rcases h1 with h1 | h1
      · rw [h1]; omega
      · exact .inr (.inr h1)
    · simp only [List.mem_cons] at hy h2
      have hm := h2 (min n m) (.inl rfl)
      rcases hy with rfl | rfl | hy
      · omega
      · omega
      · exact h2 y (.inr hy)
theorem len_dict {X : Cx} : CallR X (.builtin "len") (fun xs H Q => ∃ a kvs, xs = [.ref a] ∧ H a = some (.dK kvs) ∧ Q (.int kvs.length) H) := by
  intro pins s σ H vs us Q I r hh
  obtain ⟨a, kvs, rfl, ha, q⟩ := hh
  rw [Vals.ref1 r]
  exact d_len I (.inl ha) fun t s' I' => ⟨.int kvs.length, H, I', ⟨_, rfl⟩, q⟩
/-- the value that is called -/
def Bf.val : Bf → Value
  | .len => .builtin "len" | .tuple_ => .type "tuple" | .list_ => .type "list" | .int_ => .type "int" | .str_ => .type "str" | .abs_ => .builtin "abs" | .all_ => .builtin "all" | .any_ => .builtin "any" | .sorted_ => .builtin "sorted" | .max1 => .builtin "max" | .min1 => .builtin "min"
theorem call_str_str {X : Cx} : CallR X (.type "str") (fun xs H Q => False) := by
  intro pins s σ H vs us Q I r hh
  exact hh.elim
theorem call_b1 {X : Cx} (hc : X.calm = true) (hu : X.A.units + 65 < cLine) (g : Bf) : CallR X g.val (rB1 X.K cA g) := by
  intro pins s σ H vs us Q I r hh
  obtain ⟨x, h, ρ, a, z, rfl, rep, ra, e, f⟩ := hh
  cases g with
  | len =>
    simp only [b1W] at e
    split at e
    · rename_i st ea
      split at e
      · rename_i hl
        cases e
        exact call_len_str pins s σ H _ us Q I r ⟨st, by rw [vw_str ea ra], by rw [sizeLine_line]; exact hl, f.same rep (.int _)⟩
      · cases e
    · rename_i kvs ea
      cases e
      obtain ⟨p, kus, rfl, hp, rs⟩ := vw_dct ea rep ra
      refine len_dict pins s σ H _ us Q I r ⟨p, kus, rfl, hp, ?_⟩
      rw [← rs.length]
      exact f.same rep (.int _)
    · cases ea : vw h a with
      | lst ws =>
        rw [ea] at e
        cases e
        obtain ⟨p, kus, rfl, hp, rs⟩ := vw_lst ea rep ra
        refine call_len_seq pins s σ H _ us Q I r ⟨p, kus, rfl, .inl (SqL.of hp), ?_⟩
        rw [← rs.length]
        exact f.same rep (.int _)
      | tup ws =>
        rw [ea] at e
        cases e
        obtain ⟨p, kus, rfl, hp, rs⟩ := vw_tup ea ra
        refine call_len_seq pins s σ H _ us Q I r ⟨p, kus, rfl, .inr (SqT.of hp), ?_⟩
        rw [← rs.length]
        exact f.same rep (.int _)
      | scr ns =>
        rw [ea] at e
        simp only [seqOf, Option.map_some, Option.some.injEq, List.length_map] at e
        subst e
        obtain ⟨p, rfl, hp⟩ := vw_scr ea ra
        refine call_len_seq pins s σ H _ us Q I r ⟨p, _, rfl, .inl hp, ?_⟩
        rw [List.length_map]
        exact f.same rep (.int _)
      | _ => rw [ea] at e; cases e
  | tuple_ =>
    simp only [b1W] at e
    split at e
    · rename_i ws ea
      cases e
      obtain ⟨p, kus, rfl, hp, rs⟩ := vw_lst ea rep ra
      exact call_tuple_of pins s σ H _ us Q I r ⟨p, kus, rfl, .inl ⟨SqL.of hp, fun q hq => new_tup rep rs hq f⟩⟩
    · rename_i ws ea
      cases e
      obtain ⟨p, kus, rfl, hp, rs⟩ := vw_tup ea ra
      exact call_tuple_of pins s σ H _ us Q I r ⟨p, kus, rfl, .inr ⟨SqT.of hp, f.same rep (.tup hp rs)⟩⟩
    · cases e
  | list_ =>
    simp only [b1W] at e
    cases ea : vw h a with
    | lst ws =>
      rw [ea] at e
      cases e
      obtain ⟨p, kus, rfl, hp, rs⟩ := vw_lst ea rep ra
      exact call_list_of pins s σ H _ us Q I r ⟨p, kus, rfl, .inl (SqL.of hp), fun q hq => new_lst rep rs hq f⟩
    | tup ws =>
      rw [ea] at e
      cases e
      obtain ⟨p, kus, rfl, hp, rs⟩ := vw_tup ea ra
      exact call_list_of pins s σ H _ us Q I r ⟨p, kus, rfl, .inr (SqT.of hp), fun q hq => new_lst rep rs hq f⟩
    | scr ns =>
      rw [ea] at e
      cases e
      obtain ⟨p, rfl, hp⟩ := vw_scr ea ra
      exact call_list_of pins s σ H _ us Q I r ⟨p, _, rfl, .inl hp, fun q hq => new_lst rep (rws_ints ns) hq f⟩
    | _ => rw [ea] at e; cases e
  | int_ =>
    simp only [b1W] at e
    split at e
    · rename_i i ea
      cases e
      exact call_int1 pins s σ H _ us Q I r (.inl ⟨i, by rw [vw_int ea ra], f.same rep (.int _)⟩)
    · rename_i i ea
      cases e
      exact call_int1 pins s σ H _ us Q I r (.inr ⟨i, by rw [vw_bl ea ra], f.same rep (.int _)⟩)
    · cases e
  | str_ =>
    simp only [b1W] at e
    split at e
    · rename_i i ea
      split at e
      · rename_i hl
        cases e
        exact call_str_int pins s σ H _ us Q I r ⟨i, by rw [vw_int ea ra], hl, f.same rep (.str _)⟩
      · cases e
    · cases e
  | abs_ =>
    simp only [b1W] at e
    split at e
    · rename_i i ea
      cases e
      exact call_abs pins s σ H _ us Q I r ⟨i, by rw [vw_int ea ra], f.same rep (.int _)⟩
    · cases e
  | all_ =>
    simp only [b1W] at e
    split at e
    · rename_i ws ea
      cases q : blsOf ws with
      | none => rw [q] at e; cases e
      | some bs =>
        rw [q] at e
        cases e
        obtain ⟨p, kus, rfl, hp, rs⟩ := vw_lst ea rep ra
        have e2 := bls_of q rs
        subst e2
        exact cr_all hc pins s σ H _ us Q I r ⟨p, bs, rfl, SqL.of hp, f.same rep (.bl _)⟩
    · cases e
  | any_ =>
    simp only [b1W] at e
    split at e
    · rename_i ws ea
      cases q : blsOf ws with
      | none => rw [q] at e; cases e
      | some bs =>
        rw [q] at e
        cases e
        obtain ⟨p, kus, rfl, hp, rs⟩ := vw_lst ea rep ra
        have e2 := bls_of q rs
        subst e2
        exact cr_any hc pins s σ H _ us Q I r ⟨p, bs, rfl, SqL.of hp, f.same rep (.bl _)⟩
    · cases e
  | sorted_ =>
    simp only [b1W] at e
    split at e
    · rename_i ws ea
      cases q : strsOf ws with
      | none => rw [q] at e; cases e
      | some bs =>
        rw [q] at e
        cases e
        obtain ⟨p, kus, rfl, hp, rs⟩ := vw_lst ea rep ra
        have e2 := strs_of q rs
        subst e2
        exact cr_sortStr hu pins s σ H _ us Q I r ⟨p, bs, rfl, SqL.of hp, fun p' hp' => new_lst rep (rws_strs _) hp' f⟩
    · cases e
  | max1 =>
    simp only [b1W] at e
    split at e
    · rename_i ws ea
      split at e
      · rename_i n ns q
        cases e
        obtain ⟨p, kus, rfl, hp, rs⟩ := vw_lst ea rep ra
        have e2 := ints_of q rs
        subst e2
        refine cr_max hc pins s σ H _ us Q I r ⟨p, n :: ns, rfl, SqL.of hp, by simp, fun m hm hle => ?_⟩
        obtain ⟨h1, h2⟩ := foldl_max_mem ns n
        have : m = ns.foldl max n := Int.le_antisymm (h2 m hm) (hle _ h1)
        rw [this]
        exact f.same rep (.int _)
      · cases e
    · cases e
  | min1 =>
    simp only [b1W] at e
    split at e
    · rename_i ws ea
      split at e
      · rename_i n ns q
        cases e
        obtain ⟨p, kus, rfl, hp, rs⟩ := vw_lst ea rep ra
        have e2 := ints_of q rs
        subst e2
        refine cr_min hc pins s σ H _ us Q I r ⟨p, n :: ns, rfl, SqL.of hp, by simp, fun m hm hle => ?_⟩
        obtain ⟨h1, h2⟩ := foldl_min_mem ns n
        have : m = ns.foldl min n := Int.le_antisymm (hle _ h1) (h2 m hm)
        rw [this]
        exact f.same rep (.int _)
      · cases e
    · cases e
/-! ### isinstance -/
def Ty.nm : Ty → String
  | .non => "NoneType" | .bl => "bool" | .int => "int" | .str => "str" | .tup => "tuple" | .lst => "list" | .dct => "dict"
theorem kit_isi (u t : Ty) : kitB u.nm t.nm = some (isiB u t) := by
  cases u <;> cases t <;> decide +kernel
theorem tyX_of {u : Ty} (e : typW (vw h w) = some u) (rep : Rep K cA ρ h H) (q : RW K H ρ w v) : TyX K H v (.type u.nm) := by
  cases ea : vw h w with
  | non => rw [ea] at e; cases e; rw [vw_non ea q]; exact .base .non
  | bl b => rw [ea] at e; cases e; rw [vw_bl ea q]; exact .base (.bl _)
  | int b => rw [ea] at e; cases e; rw [vw_int ea q]; exact .base (.int _)
  | str b => rw [ea] at e; cases e; rw [vw_str ea q]; exact .base (.str _)
  | lst ws => rw [ea] at e; cases e; obtain ⟨p, vs, rfl, hp, _⟩ := vw_lst ea rep q; exact .base (.lst hp)
  | tup ws => rw [ea] at e; cases e; obtain ⟨p, vs, rfl, hp, _⟩ := vw_tup ea q; exact .base (.tup hp)
  | dct ws => rw [ea] at e; cases e; obtain ⟨p, vs, rfl, hp, _⟩ := vw_dct ea rep q; exact .base (.dK hp)
  | ref i => rw [ea] at e; cases e
  | scr ns =>
    rw [ea] at e
    cases e
    obtain ⟨p, rfl, hp⟩ := vw_scr ea q
    rcases hp with (hp | ⟨o, hp⟩) | ⟨o, its, n, hk, hc, _⟩
    · exact .base (.lst hp)
    · exact .base (.frz hp)
    · exact .kList hk hc
def rIsiW (K : PySem.W.Frag) (cA : Str → Addr) (t : Ty) : List V → Hp → VK → Prop := fun xs H Q => ∃ x h ρ a u, xs = [x, .ty t.nm] ∧ Rep K cA ρ h H ∧ RW K H ρ a x ∧ typW (vw h a) = some u ∧ Q (.bl (isiB u t)) H
theorem call_isiW {X : Cx} (t : Ty) : CallR X (.builtin "isinstance") (rIsiW X.K cA t) := by
  intro pins s σ H vs us Q I r hh
  obtain ⟨x, h, ρ, a, u, rfl, rep, ra, e, f⟩ := hh
  exact call_isi pins s σ H _ us Q I r ⟨x, .ty t.nm, .type u.nm, .type t.nm, isiB u t, rfl, .ty _, tyX_of e rep ra, kit_ty (kit_isi u t), f⟩
end MP
set_option Elab.async false
set_option linter.all false
set_option maxRecDepth 100000
set_option maxHeartbeats 2000000
/-! MP7: what a loop walks: a list, a tuple, a text; enumerate, zip of these in any mix. -/
namespace MP
open PySem PySem.Spec PyProof.Rows L2

inductive Sr where
  | lst (a : Addr) | tup (a : Addr) | txt (z : Str)
def Sr.v : Sr → V
  | .lst a => .ref a | .tup a => .ref a | .txt z => .str z
def Sr.Has (K : PySem.W.Frag) (H : Hp) : Sr → List V → Prop
  | .lst a, xs => SqL K H a xs
  | .tup a, xs => SqT K H a xs
  | .txt z, xs => xs = z.cps.toList.map fun c => V.str ⟨#[c]⟩
def Sr.At (it : Addr) (i : Nat) (h : Heap) : Sr → Prop
  | .lst a => h.IsListIter it a i ∧ a ≠ it
  | .tup a => h.IsTupleIter it a i ∧ a ≠ it
  | .txt z => ∃ t, h.IsStrIter it (strIterType z) z t i
def Sr.off (b : Addr) : Sr → Prop
  | .lst a => a ≠ b | .tup a => a ≠ b | .txt _ => True
theorem Sr.At.at {sr : Sr} {it : Addr} {i : Nat} {h h' : Heap} (x : sr.At it i h) (k : ∀ o, h.get? it = some o → h'.get? it = some o) : sr.At it i h' := by
  cases sr with
  | lst a => exact ⟨x.1.at k, x.2⟩
  | tup a => exact ⟨x.1.at k, x.2⟩
  | txt z =>
    obtain ⟨t, o, ho, r⟩ := x
    exact ⟨t, o, k o ho, r⟩
theorem Sr.At.obj {sr : Sr} {it : Addr} {i : Nat} {h : Heap} (x : sr.At it i h) : ∃ o, h.get? it = some o ∧ ∀ v, o.data ≠ .cell v := by
  cases sr with
  | lst a => obtain ⟨⟨o, ho, hc, hd⟩, _⟩ := x; exact ⟨o, ho, fun v q => by rw [hd] at q; cases q⟩
  | tup a => obtain ⟨⟨o, ho, hc, hd⟩, _⟩ := x; exact ⟨o, ho, fun v q => by rw [hd] at q; cases q⟩
  | txt z => obtain ⟨t, o, ho, hc, hd⟩ := x; exact ⟨o, ho, fun v q => by rw [hd] at q; cases q⟩
section
variable {X : Cx} {pins : List (Addr × Obj)} {σ : L2.St} {H : Hp} {s : Shared}
/-- the iterator at a turn, as the library draws of it -/
theorem Sr.draws (I : Inv X pins σ H s) {sr : Sr} {xs : List V} {it : Addr} {i : Nat} (hc : X.calm = true) (hq : sr.Has X.K H xs) (st : sr.At it i s.heap) :
    ∃ (fp : List Addr) (P : Nat → Value → Prop) (St : Nat → Heap → Prop), Draws X.prog X.w X.A.in1 it fp xs.length P St ∧ St i s.heap ∧ (∀ j u, P j u → ∃ x, xs[j]? = some x ∧ RelV x u) ∧ (∀ j h', St j h' → sr.At it j h') ∧
      it ∈ fp ∧ ∀ b, b ≠ it → sr.off b → b ∉ fp := by
  have hh : X.A.in1.handled = none := I.ok.hd hc
  cases sr with
  | lst a =>
    obtain ⟨its, rv, p, hz⟩ := I.list hq
    have D := Draws.list (prog := X.prog) (w := X.w) (A := X.A.in1) hh it a st.2 its.toArray
    rw [List.size_toArray, ← rv.length] at D
    refine ⟨_, _, _, D, ⟨st.1, p.isList⟩, fun j u hu => ?_, fun j h' (x : h'.IsListIter it a j ∧ h'.IsList a its.toArray) => ⟨x.1, st.2⟩, by simp, fun b hb ho hm => ?_⟩
    · have hu' : its[j]? = some u := by simpa using hu
      have hj : j < xs.length := by rw [rv.length]; exact (List.getElem?_eq_some_iff.mp hu').1
      obtain ⟨u', h1, h2⟩ := rv.get (i := j) (x := xs[j]) (by simp [hj])
      rw [hu'] at h1; cases h1
      exact ⟨_, by simp [hj], h2⟩
    · have : b = it ∨ b = a := by simpa using hm
      rcases this with z | z
      · exact hb z
      · exact ho z.symm
  | tup a =>
    obtain ⟨its, rv, p, hz⟩ := I.tuple hq
    have D := Draws.tuple (prog := X.prog) (w := X.w) (A := X.A.in1) hh it a st.2 its.toArray
    rw [List.size_toArray, ← rv.length] at D
    refine ⟨_, _, _, D, ⟨st.1, show s.heap.IsTuple a its.toArray from p⟩, fun j u hu => ?_, fun j h' (x : h'.IsTupleIter it a j ∧ h'.IsTuple a its.toArray) => ⟨x.1, st.2⟩, by simp, fun b hb ho hm => ?_⟩
    · have hu' : its[j]? = some u := by simpa using hu
      have hj : j < xs.length := by rw [rv.length]; exact (List.getElem?_eq_some_iff.mp hu').1
      obtain ⟨u', h1, h2⟩ := rv.get (i := j) (x := xs[j]) (by simp [hj])
      rw [hu'] at h1; cases h1
      exact ⟨_, by simp [hj], h2⟩
    · have : b = it ∨ b = a := by simpa using hm
      rcases this with z | z
      · exact hb z
      · exact ho z.symm
  | txt z =>
    obtain ⟨t, st⟩ := st
    have hq' : xs = z.cps.toList.map fun c => V.str ⟨#[c]⟩ := hq
    subst hq'
    have D := Draws.text (prog := X.prog) (w := X.w) (A := X.A.in1) hh it z t
    have e0 : z.cps.size = (z.cps.toList.map fun c => V.str ⟨#[c]⟩).length := by simp
    rw [e0] at D
    refine ⟨_, _, _, D, st, fun j u hu => ?_, fun j h' x => ⟨t, x⟩, by simp, fun b hb ho hm => hb (by simpa using hm)⟩
    obtain ⟨c, v, h1, h2⟩ := hu
    refine ⟨.str ⟨#[c]⟩, ?_, v, h2⟩
    rw [List.getElem?_map, Array.getElem?_toList, h1]
    rfl
/-- what iter makes of it -/
theorem Sr.begins (I : Inv X pins σ H s) {sr : Sr} {xs : List V} {u : Value} (hq : sr.Has X.K H xs) (r : RelV sr.v u) :
    ∃ (o : Obj) (HB : Heap → Prop), Begins u o HB ∧ HB s.heap ∧ ∀ (it : Addr) (h : Heap), s.heap.objs.size ≤ it → h.get? it = some o → sr.At it 0 h := by
  cases sr with
  | lst a =>
    obtain ⟨its, rv, p, hz⟩ := I.list hq
    cases r
    exact ⟨_, _, begins_list a its.toArray, p.isList, fun it h hl ho => ⟨⟨_, ho, rfl, rfl⟩, Nat.ne_of_lt (Nat.lt_of_lt_of_le (let ⟨_, _, q, _⟩ := p; Heap.lt_size q) hl)⟩⟩
  | tup a =>
    obtain ⟨its, rv, p, hz⟩ := I.tuple hq
    cases r
    exact ⟨_, _, begins_tuple a its.toArray, show s.heap.IsTuple a its.toArray from p, fun it h hl ho => ⟨⟨_, ho, rfl, rfl⟩, Nat.ne_of_lt (Nat.lt_of_lt_of_le p.lt hl)⟩⟩
  | txt z =>
    obtain ⟨t, rfl⟩ := r
    exact ⟨_, _, begins_text z t, trivial, fun it h hl ho => ⟨t, _, ho, rfl, rfl⟩⟩
/-- it is one thing -/
theorem Sr.inj (I : Inv X pins σ H s) {sr : Sr} {xs ys : List V} (h : sr.Has X.K H xs) (h' : sr.Has X.K H ys) : xs = ys := by
  cases sr with
  | lst a => exact I.list_inj h h'
  | tup a => exact I.tuple_inj h h'
  | txt z => exact Eq.trans (show xs = _ from h) (show ys = _ from h').symm
theorem Sr.offNew (I : Inv X pins σ H s) {sr : Sr} {xs : List V} {b : Addr} (h : sr.Has X.K H xs) (hb : s.heap.objs.size ≤ b) : sr.off b := by
  cases sr with
  | lst a => obtain ⟨its, rv, p, hz⟩ := I.list h; exact Nat.ne_of_lt (Nat.lt_of_lt_of_le (let ⟨_, _, q, _⟩ := p; Heap.lt_size q) hb)
  | tup a => obtain ⟨its, rv, p, hz⟩ := I.tuple h; exact Nat.ne_of_lt (Nat.lt_of_lt_of_le p.lt hb)
  | txt z => trivial
end

/-! ### enumerate -/
set_option maxHeartbeats 4000000 in
theorem meets_enumerate_new1 {v : Value} {o : Obj} {H : Heap → Prop} (B : Begins v o H) :
    Meets (Builtin.«enumerate.__new__» ⟨[.type "enumerate", v], []⟩) (fun _ R s => H s.heap ∧
      R (.ok (.ret (.ref (s.heap.push o).objs.size))) { s with heap := (s.heap.push o).push { cls := .type "enumerate", data := .fields #[.none, .bool false, .ref s.heap.objs.size, rawInt 0, .none, .none] } }) :=
  .of_wp fun prog w A R s h => by
    obtain ⟨hp, g, d, tk, os⟩ := s; obtain ⟨h1, h⟩ := h
    have hsub := sub_enumerate
    have q1 : ∀ {A' : Around} {E : Value → Shared → Prop} {Q : Value → Shared → Prop}, Q (.ref hp.objs.size) ⟨hp.push o, g, d, tk, os⟩ → wpAny (model prog w) A' (pyIter v) Q E ⟨hp, g, d, tk, os⟩ :=
      fun q => B.iter prog w _ _ ⟨hp, g, d, tk, os⟩ _ h1 q
    wp_walk using q1
    refine wpAny_stack_any fun st => wpAny_pure ?_
    split
    · rename_i c _ _ _ _ _
      cases (c == Value.type "enumerate")
      · wp_walk using q1
        exact ⟨_, rfl, h⟩
      · wp_walk using q1
        exact ⟨_, rfl, h⟩
    · wp_walk using q1
      exact ⟨_, rfl, h⟩
theorem enum_begins1 {prog : Program} {w : World} {A : Around} {E : Value → Shared → Prop} {s : Shared} {v : Value} {o : Obj} {H : Heap → Prop} {Q : Value → Shared → Prop} (B : Begins v o H) (h1 : H s.heap)
    (h : ∀ h', IsEnum h' (s.heap.objs.size + 1) s.heap.objs.size 0 .none → h'.get? s.heap.objs.size = some o → h'.objs.size = s.heap.objs.size + 2 →
      (∀ b o, s.heap.get? b = some o → h'.get? b = some o) → Q (.ref (s.heap.objs.size + 1)) { s with heap := h' }) :
    wpAny (model prog w) A (call (.type "enumerate") [v]) Q E s := by
  refine callType_new F.called_enumerate (by decide) (F.typeCall_enumerate_1 _) (F.newCall_enumerate_1 _) (fun obj => F.args_object_init_2 obj _) F.entry_enumerate_new
    (meets_enumerate_new1 B) ⟨h1, ?_⟩
  have hz : (s.heap.push o).objs.size = s.heap.objs.size + 1 := Heap.size_push ..
  show _ ∧ _
  rw [hz]
  have he : IsEnum ((s.heap.push o).push { cls := .type "enumerate", data := .fields #[.none, .bool false, .ref s.heap.objs.size, rawInt 0, .none, .none] }) (s.heap.objs.size + 1) s.heap.objs.size 0 .none := by
    have := Heap.get?_push_size (s.heap.push o) (o := { cls := .type "enumerate", data := .fields #[.none, .bool false, .ref s.heap.objs.size, rawInt 0, .none, .none] }) rfl
    rw [hz] at this; exact this
  exact ⟨⟨_, he, rfl⟩, h _ he (Heap.get?_push_of_some _ (Heap.get?_push_size _ B.free)) (by rw [Heap.size_push, hz]) fun b o x => Heap.get?_push_of_some _ (Heap.get?_push_of_some _ x)⟩
def IteS (K : PySem.W.Frag) (sr : Sr) : It :=
  ⟨fun i H => ∃ (xs : List V) (x : V), sr.Has K H xs ∧ xs[i]? = some x, fun i H v H' => ∃ T x, v = .ref T ∧ H T = none ∧ H' = upd H T (.tup [.int (i : Nat), x]) ∧ ∀ xs, sr.Has K H xs → xs[i]? = some x, fun i H => ∃ xs : List V, sr.Has K H xs ∧ xs.length = i⟩
theorem turn_enumS {P : Program} {w : World} {K : PySem.W.Frag} {elts : List Expr} {kk : Nat} {tpos : Pos} (sr : Sr) (e it : Addr) (hoff : sr.off e) :
    Turn P w K (.Tuple elts kk tpos) (IteS K sr) [e, it] e (fun i h => (∃ old, IsEnum h e it ((i : Nat) : Int) old) ∧ sr.At it i h ∧ e ≠ it) where
  mem := by simp
  obj := fun i h st b hb => by
    obtain ⟨⟨old, he⟩, hi, _⟩ := st
    have e' : b = e ∨ b = it := by simpa using hb
    rcases e' with z | z
    · rw [z]; exact ⟨_, he, fun v q => nomatch q⟩
    · rw [z]; exact hi.obj
  keep := fun i h h' st k => let ⟨⟨old, he⟩, hi, hne⟩ := st; ⟨⟨old, k e (by simp) _ he⟩, hi.at fun o q => k it (by simp) o q, hne⟩
  item := by
    intro X hP hw hK hc i pins s σ H E I hf st hg
    subst hP hw hK
    obtain ⟨⟨old, he⟩, hit, hne⟩ := st
    obtain ⟨xs, x, hq, hx⟩ := hg
    obtain ⟨fp, Pd, St, D, st0, hP, hAt, hm, hnm⟩ := Sr.draws I hc hq hit
    have hi : i < xs.length := (List.getElem?_eq_some_iff.mp hx).1
    have hel : e < s.heap.objs.size := Heap.lt_size he
    have hil : it < s.heap.objs.size := by obtain ⟨_, q, _⟩ := hit.obj; exact Heap.lt_size q
    refine wpAny_pyNext_enum_itemD D he st0 hi hne (hnm e hne hoff) fun u h' tk hPu ho hit' hT hsz hk => ?_
    obtain ⟨x', hx', ru⟩ := hP i u hPu
    rw [hx] at hx'; cases hx'
    refine ⟨_, rfl, wpAny_letOwnedTupleGo_enum (s := { s with heap := h', toks := tk + 1 }) ho fun h'' he' sb => ?_⟩
    have hT2 : h''.get? s.heap.objs.size = some { cls := .type "tuple", data := .seq #[.int i tk, u] } := (sb.2 _ (Nat.ne_of_gt hel)).trans hT
    have new : ObjOk X.prog X.w (upd H s.heap.objs.size (.tup [.int (i : Nat), x])) h'' s.heap.objs.size (.tup [.int (i : Nat), x]) :=
      ⟨by show 2 ≤ sizeLine; decide, [.int i tk, u], .cons ⟨_, rfl⟩ (.cons ru .nil), ⟨_, hT2, rfl, _, rfl⟩⟩
    have I1 : Inv X pins σ (upd H s.heap.objs.size (.tup [.int (i : Nat), x])) { s with heap := h'', toks := tk + 1 } :=
      I.turnedNew (ch := [e, it]) (fun b ob hb q => (sb.2 b (fun z => hb (by simp [z]))).trans (hk b ob (fun z => hb (by simp [z])) (fun z => hb (by simp [z])) q)) hf (Nat.le_refl _) new
    refine ⟨.ref s.heap.objs.size, _, I1, rfl, ⟨_, x, rfl, I.hok.fresh (Nat.le_refl _), rfl, fun ys hy => by rw [Sr.inj I hy hq]; exact hx⟩, ⟨⟨u, ?_⟩, (hAt _ _ hit').at fun o q => (sb.2 it (Ne.symm hne)).trans q, hne⟩, fun b hb => ?_⟩
    · have e1 : ((i + 1 : Nat) : Int) = (i : Int) + 1 := by omega
      rw [e1]; exact he'
    · have hb' : b < s.heap.objs.size := by
        have e' : b = e ∨ b = it := by simpa using hb
        rcases e' with z | z
        · rw [z]; exact hel
        · rw [z]; exact hil
      rw [upd_ne (Nat.ne_of_lt hb')]
      exact (hf b hb).1
  done := by
    intro X hP hw hK hc i pins s σ H E I hf st hg
    subst hP hw hK
    obtain ⟨⟨old, he⟩, hit, hne⟩ := st
    obtain ⟨xs, hq, hx⟩ := hg
    obtain ⟨fp, Pd, St, D, st0, hP, hAt, hm, hnm⟩ := Sr.draws I hc hq hit
    subst hx
    obtain ⟨f0, f1, f2, f3, f4, f5⟩ := hf it (by simp)
    exact wpAny_pyNext_enum_endD D he st0 fun h' eb => ⟨rfl, I.turned (t' := s.toks) (fun b o hb q => eb b o hb q) f0 f1 f3 f4 f5⟩
  self := fun A i s Q E st h => let ⟨⟨_, he⟩, _⟩ := st; wpAny_pyIter_enum he h
def iEnumS (K : PySem.W.Frag) (ta : TA) : TI := fun σ H R => ta σ H fun vs H1 => ∃ sr xs, vs = [Sr.v sr] ∧ sr.Has K H1 xs ∧ R (IteS K sr) H1
theorem pi_enumS {X : Cx} {e : Expr} {ta : TA} {p pos tpos : Pos} {elts : List Expr} {kk : Nat} (hg : Gl X "enumerate") (hm : X.mg "enumerate" = none) (ha : PA X [e] ta) (hs : starEach [e] X.env = [(false, eval e X.env)]) :
    PI X (.Tuple elts kk tpos) (.Call (.Name "enumerate" p) [e] [] pos) (iEnumS X.K ta) := by
  refine ⟨fun pins s σ H R I h => ?_⟩
  refine Call_ (ld_blt I hg hm boot_enumerate (PyProof.Rows.callWith_type1 (thn (ha.run pos pins s σ H _ I h) fun us s1 ⟨vs, H1, I1, r1, q1⟩ => ?_) hs rfl))
  obtain ⟨sr, xs, ex, hq, q⟩ := q1
  subst ex
  cases r1 with
  | cons r rr =>
    cases rr
    obtain ⟨o, HB, B, hB, hAt⟩ := Sr.begins I1 hq r
    refine enum_begins1 B hB fun h' he ho hsz hk => wpAny_pyIter_enum he ?_
    have I2 : Inv X pins σ H1 { s1 with heap := h' } := I1.kept (t' := s1.toks) hk
    refine ⟨s1.heap.objs.size + 1, [s1.heap.objs.size + 1, s1.heap.objs.size], _, _, H1, rfl, I2, turn_enumS sr (s1.heap.objs.size + 1) s1.heap.objs.size (Sr.offNew I1 hq (Nat.le_succ _)), ⟨⟨.none, he⟩, hAt _ _ (Nat.le_refl _) ho, Nat.succ_ne_self _⟩, fun b hb => ?_, q⟩
    have e' : b = s1.heap.objs.size + 1 ∨ b = s1.heap.objs.size := by simpa using hb
    have hle : s1.heap.objs.size ≤ b := by
      rcases e' with z | z
      · rw [z]; exact Nat.le_add_right _ _
      · rw [z]; exact Nat.le_refl _
    exact I1.fpOk hle (I1.hok.fresh hle)

/-! ### zip of two -/
def ItzS (K : PySem.W.Frag) (sa sb : Sr) : It :=
  ⟨fun i H => ∃ (xs ys : List V) (x y : V), sa.Has K H xs ∧ sb.Has K H ys ∧ xs[i]? = some x ∧ ys[i]? = some y,
    fun i H v H' => ∃ T x y, v = .ref T ∧ H T = none ∧ H' = upd H T (.tup [x, y]) ∧ (∀ xs, sa.Has K H xs → xs[i]? = some x) ∧ ∀ ys, sb.Has K H ys → ys[i]? = some y,
    fun i H => ∃ xs ys : List V, sa.Has K H xs ∧ sb.Has K H ys ∧ i = min xs.length ys.length⟩
structure ZA (sa sb : Sr) (z TI TO i1 i2 : Addr) : Prop where
  TIz : TI ≠ z
  TOz : TO ≠ z
  TITO : TI ≠ TO
  TIi1 : TI ≠ i1
  TIi2 : TI ≠ i2
  zi1 : z ≠ i1
  zi2 : z ≠ i2
  TOi1 : TO ≠ i1
  TOi2 : TO ≠ i2
  i12 : i1 ≠ i2
  za : sa.off z
  zb : sb.off z
  Ta : sa.off TO
  Tb : sb.off TO
  i1b : sb.off i1
  i2a : sa.off i2
theorem turn_zipS {P : Program} {w : World} {K : PySem.W.Frag} {elts : List Expr} {kk : Nat} {tpos : Pos} {sa sb : Sr} {z TI TO i1 i2 : Addr} (Z : ZA sa sb z TI TO i1 i2) :
    Turn P w K (.Tuple elts kk tpos) (ItzS K sa sb) [z, TI, TO, i1, i2] z (fun i h => IsZip h z TI TO .none ∧ IsTupOf2 h TI (.ref i1) (.ref i2) ∧ (∃ x y, IsTupOf2 h TO x y) ∧ sa.At i1 i h ∧ sb.At i2 i h) where
  mem := by simp
  obj := fun i h st c hc => by
    obtain ⟨hz, hTI, ⟨x, y, hTO⟩, h1, h2⟩ := st
    have e' : c = z ∨ c = TI ∨ c = TO ∨ c = i1 ∨ c = i2 := by simpa using hc
    rcases e' with q | q | q | q | q
    · rw [q]; exact ⟨_, hz, fun v q => nomatch q⟩
    · rw [q]; exact ⟨_, hTI, fun v q => nomatch q⟩
    · rw [q]; exact ⟨_, hTO, fun v q => nomatch q⟩
    · rw [q]; exact h1.obj
    · rw [q]; exact h2.obj
  keep := fun i h h' st k => by
    obtain ⟨hz, hTI, ⟨x, y, hTO⟩, h1, h2⟩ := st
    exact ⟨k z (by simp) _ hz, k TI (by simp) _ hTI, ⟨x, y, k TO (by simp) _ hTO⟩, h1.at fun o q => k i1 (by simp) o q, h2.at fun o q => k i2 (by simp) o q⟩
  item := by
    intro X hP hw hK hc i pins s σ H E I hf st hg
    subst hP hw hK
    obtain ⟨hz, hTI, ⟨x0, y0, hTO⟩, h1, h2⟩ := st
    obtain ⟨xs, ys, x, y, hqx, hqy, hx, hy⟩ := hg
    obtain ⟨fp1, P1, St1, D1, st1, hP1, hAt1, hm1, hn1⟩ := Sr.draws I hc hqx h1
    obtain ⟨fp2, P2, St2, D2, st2, hP2, hAt2, hm2, hn2⟩ := Sr.draws I hc hqy h2
    have hi1 : i < xs.length := (List.getElem?_eq_some_iff.mp hx).1
    have hi2 : i < ys.length := (List.getElem?_eq_some_iff.mp hy).1
    have S : ZipSep2 z TI TO i1 i2 fp1 fp2 := { TIz := Z.TIz, TOz := Z.TOz, TITO := Z.TITO, TIi1 := Z.TIi1, mem1 := hm1, zf1 := hn1 _ Z.zi1 Z.za, Tf1 := hn1 _ Z.TOi1 Z.Ta, TIi2 := Z.TIi2, mem2 := hm2, zf2 := hn2 _ Z.zi2 Z.zb, Tf2 := hn2 _ Z.TOi2 Z.Tb, sep1_2 := hn2 _ Z.i12 Z.i1b, sep2_1 := hn1 _ (Ne.symm Z.i12) Z.i2a }
    have hzl : z < s.heap.objs.size := Heap.lt_size hz
    refine wpAny_pyNext_zipD2_item S D1 D2 hz hTI hTO st1 st2 hi1 hi2 fun u u2 h' tk y1 y2 z' TO' h1' h2' hT hsz hk => ?_
    obtain ⟨x', hx', ru⟩ := hP1 i u y1
    rw [hx] at hx'; cases hx'
    obtain ⟨y', hy', ru2⟩ := hP2 i u2 y2
    rw [hy] at hy'; cases hy'
    refine ⟨_, rfl, wpAny_letOwnedTupleGo_zip (s := { s with heap := h', toks := tk }) z' fun h'' z'' sb' => ?_⟩
    have hT2 : h''.get? s.heap.objs.size = some { cls := .type "tuple", data := .seq #[u, u2] } := (sb'.2 _ (Nat.ne_of_gt hzl)).trans hT
    have new : ObjOk X.prog X.w (upd H s.heap.objs.size (.tup [x, y])) h'' s.heap.objs.size (.tup [x, y]) :=
      ⟨by show 2 ≤ sizeLine; decide, [u, u2], .cons ru (.cons ru2 .nil), ⟨_, hT2, rfl, _, rfl⟩⟩
    have I1 : Inv X pins σ (upd H s.heap.objs.size (.tup [x, y])) { s with heap := h'', toks := tk } :=
      I.turnedNew (t' := tk) (ch := [z, TI, TO, i1, i2]) (fun c o hb q => (sb'.2 c (fun q' => hb (by simp [q']))).trans (hk c o (fun q' => hb (by simp [q'])) (fun q' => hb (by simp [q'])) (fun q' => hb (by simp [q'])) (fun q' => hb (by simp [q'])) q)) hf (Nat.le_refl _) new
    refine ⟨.ref s.heap.objs.size, _, I1, rfl, ⟨_, x, y, rfl, I.hok.fresh (Nat.le_refl _), rfl, fun l hl => by rw [Sr.inj I hl hqx]; exact hx, fun l hl => by rw [Sr.inj I hl hqy]; exact hy⟩, ⟨z'', ?_, ⟨u, u2, ?_⟩, ?_, ?_⟩, fun c hcm => ?_⟩
    · exact (sb'.2 _ Z.TIz).trans (hk _ _ Z.TIz Z.TITO Z.TIi1 Z.TIi2 hTI)
    · exact (sb'.2 _ Z.TOz).trans TO'
    · exact (hAt1 _ _ h1').at fun o q => (sb'.2 _ (Ne.symm Z.zi1)).trans q
    · exact (hAt2 _ _ h2').at fun o q => (sb'.2 _ (Ne.symm Z.zi2)).trans q
    · have hlt : c < s.heap.objs.size := by
        have e' : c = z ∨ c = TI ∨ c = TO ∨ c = i1 ∨ c = i2 := by simpa using hcm
        rcases e' with q | q | q | q | q
        · rw [q]; exact hzl
        · rw [q]; exact Heap.lt_size hTI
        · rw [q]; exact Heap.lt_size hTO
        · rw [q]; obtain ⟨_, e1, _⟩ := h1.obj; exact Heap.lt_size e1
        · rw [q]; obtain ⟨_, e2, _⟩ := h2.obj; exact Heap.lt_size e2
      rw [upd_ne (Nat.ne_of_lt hlt)]
      exact (hf c hcm).1
  done := by
    intro X hP hw hK hc i pins s σ H E I hf st hg
    subst hP hw hK
    obtain ⟨hz, hTI, ⟨x0, y0, hTO⟩, h1, h2⟩ := st
    obtain ⟨xs, ys, hqx, hqy, hend⟩ := hg
    obtain ⟨fp1, P1, St1, D1, st1, hP1, hAt1, hm1, hn1⟩ := Sr.draws I hc hqx h1
    obtain ⟨fp2, P2, St2, D2, st2, hP2, hAt2, hm2, hn2⟩ := Sr.draws I hc hqy h2
    have S : ZipSep2 z TI TO i1 i2 fp1 fp2 := { TIz := Z.TIz, TOz := Z.TOz, TITO := Z.TITO, TIi1 := Z.TIi1, mem1 := hm1, zf1 := hn1 _ Z.zi1 Z.za, Tf1 := hn1 _ Z.TOi1 Z.Ta, TIi2 := Z.TIi2, mem2 := hm2, zf2 := hn2 _ Z.zi2 Z.zb, Tf2 := hn2 _ Z.TOi2 Z.Tb, sep1_2 := hn2 _ Z.i12 Z.i1b, sep2_1 := hn1 _ (Ne.symm Z.i12) Z.i2a }
    have W := WalksT.zipD2 (prog := X.prog) (w := X.w) (A := X.A) S D1 D2
    refine W.done s _ _ (by rw [← hend]; exact ⟨hz, hTI, ⟨x0, y0, hTO⟩, st1, st2⟩) fun h' tk hk => ⟨rfl, I.turnedL (t' := tk) (ch := [z, TI, TO, i1, i2]) (fun c o hb q =>
      hk c o (fun q' => hb (by
        have e' : c = z ∨ c = TO ∨ c = i1 ∨ c = i2 := by simpa using q'
        rcases e' with z | z | z | z <;> simp [z])) q) hf⟩
  self := fun A i s Q E st h => wpAny_pyIter_zip st.1 h
def iZipS (K : PySem.W.Frag) (ta : TA) : TI := fun σ H R => ta σ H fun vs H1 => ∃ sa sb xs ys, vs = [Sr.v sa, Sr.v sb] ∧ sa.Has K H1 xs ∧ sb.Has K H1 ys ∧ R (ItzS K sa sb) H1
theorem pi_zipS {X : Cx} {e e2 : Expr} {ta : TA} {p pos tpos : Pos} {elts : List Expr} {kk : Nat} (hg : Gl X "zip") (hm : X.mg "zip" = none) (ha : PA X [e, e2] ta)
    (hs : starEach [e, e2] X.env = (false, eval e X.env) :: starEach [e2] X.env) (hpl : (backTo pos (starEach [e2] X.env)).any (·.1) = false) :
    PI X (.Tuple elts kk tpos) (.Call (.Name "zip" p) [e, e2] [] pos) (iZipS X.K ta) := by
  refine ⟨fun pins s σ H R I h => ?_⟩
  refine Call_ (ld_blt I hg hm PyProof.Rows.boot_zip (PyProof.Rows.callWith_type1 (thn (ha.run pos pins s σ H _ I h) fun us s1 ⟨vs, H1, I1, r1, q1⟩ => ?_) hs hpl))
  obtain ⟨sa, sb, xs, ys, ex, hqa, hqb, q⟩ := q1
  subst ex
  cases r1 with
  | cons r rr =>
    cases rr with
    | cons r' rr =>
      cases rr
      obtain ⟨o1, HB1, B1, hB1, hAt1⟩ := Sr.begins I1 hqa r
      obtain ⟨o2, HB2, B2, hB2, hAt2⟩ := Sr.begins I1 hqb r'
      refine zip_begins2 B1 B2 hB1 hB2 fun h' hz hTI hTO ho1 ho2 hsz hk => wpAny_pyIter_zip hz ?_
      have I2 : Inv X pins σ H1 { s1 with heap := h' } := I1.kept (t' := s1.toks) hk
      have Z : ZA sa sb (s1.heap.objs.size + 4) (s1.heap.objs.size + 2) (s1.heap.objs.size + 3) s1.heap.objs.size (s1.heap.objs.size + 1) :=
        ⟨show (s1.heap.objs.size + 2 : Nat) ≠ s1.heap.objs.size + 4 by omega, show (s1.heap.objs.size + 3 : Nat) ≠ s1.heap.objs.size + 4 by omega, show (s1.heap.objs.size + 2 : Nat) ≠ s1.heap.objs.size + 3 by omega, show (s1.heap.objs.size + 2 : Nat) ≠ s1.heap.objs.size by omega,
          show (s1.heap.objs.size + 2 : Nat) ≠ s1.heap.objs.size + 1 by omega, show (s1.heap.objs.size + 4 : Nat) ≠ s1.heap.objs.size by omega, show (s1.heap.objs.size + 4 : Nat) ≠ s1.heap.objs.size + 1 by omega, show (s1.heap.objs.size + 3 : Nat) ≠ s1.heap.objs.size by omega,
          show (s1.heap.objs.size + 3 : Nat) ≠ s1.heap.objs.size + 1 by omega, show (s1.heap.objs.size : Nat) ≠ s1.heap.objs.size + 1 by omega, Sr.offNew I1 hqa (Nat.le_add_right _ _), Sr.offNew I1 hqb (Nat.le_add_right _ _), Sr.offNew I1 hqa (Nat.le_add_right _ _), Sr.offNew I1 hqb (Nat.le_add_right _ _),
          Sr.offNew I1 hqb (Nat.le_refl _), Sr.offNew I1 hqa (Nat.le_add_right _ _)⟩
      refine ⟨s1.heap.objs.size + 4, [s1.heap.objs.size + 4, s1.heap.objs.size + 2, s1.heap.objs.size + 3, s1.heap.objs.size, s1.heap.objs.size + 1], _, _, H1, rfl, I2, turn_zipS Z, ⟨hz, hTI, ⟨_, _, hTO⟩, hAt1 _ _ (Nat.le_refl _) ho1, hAt2 _ _ (Nat.le_succ _) ho2⟩, fun c hcm => ?_, q⟩
      have e' : c = s1.heap.objs.size + 4 ∨ c = s1.heap.objs.size + 2 ∨ c = s1.heap.objs.size + 3 ∨ c = s1.heap.objs.size ∨ c = s1.heap.objs.size + 1 := by simpa using hcm
      have hle : s1.heap.objs.size ≤ c := by
        rcases e' with z | z | z | z | z
        · rw [z]; exact Nat.le_add_right _ _
        · rw [z]; exact Nat.le_add_right _ _
        · rw [z]; exact Nat.le_add_right _ _
        · rw [z]; exact Nat.le_refl _
        · rw [z]; exact Nat.le_add_right _ _
      exact I1.fpOk hle (I1.hok.fresh hle)

/-! ### one thing walked -/
def ItS (K : PySem.W.Frag) (sr : Sr) : It := match sr with
  | .lst a => Itl K a
  | .tup a => Itt K a
  | .txt z => Its z
def iOneS (K : PySem.W.Frag) (te : TE) : TI := fun σ H R => te σ H fun v H1 => ∃ sr xs, v = Sr.v sr ∧ sr.Has K H1 xs ∧ R (ItS K sr) H1
theorem pi_oneS {X : Cx} {tg e : Expr} {te : TE} (he : PE X e te) : PI X tg e (iOneS X.K te) := by
  refine ⟨fun pins s σ H R I h => ?_⟩
  refine thn (he.run pins s σ H _ I h) fun v s1 ⟨x, H1, I1, r1, sr, xs, ex, hq, q⟩ => ?_
  subst ex
  cases sr with
  | lst a =>
    cases r1
    obtain ⟨its, rv, p, hz⟩ := I1.list hq
    refine wpAny_pyIter_list p.isList ?_
    refine ⟨s1.heap.objs.size, [s1.heap.objs.size], _, _, H1, rfl, I1.kept (t' := s1.toks) fun b o e => Heap.get?_push_of_some _ e, turn_list a _, ⟨_, Heap.get?_push_size _ rfl, rfl, rfl⟩, fun b hb => ?_, q⟩
    have e : b = s1.heap.objs.size := by simpa using hb
    subst e
    exact I1.fpOk (Nat.le_refl _) (I1.hok.fresh (Nat.le_refl _))
  | tup a =>
    cases r1
    obtain ⟨its, rv, p, hz⟩ := I1.tuple hq
    refine wpAny_pyIter_tuple (show s1.heap.IsTuple a its.toArray from p) ?_
    refine ⟨s1.heap.objs.size, [s1.heap.objs.size], _, _, H1, rfl, I1.kept (t' := s1.toks) fun b o e => Heap.get?_push_of_some _ e, turn_tuple a _, ⟨_, Heap.get?_push_size _ rfl, rfl, rfl⟩, fun b hb => ?_, q⟩
    have e : b = s1.heap.objs.size := by simpa using hb
    subst e
    exact I1.fpOk (Nat.le_refl _) (I1.hok.fresh (Nat.le_refl _))
  | txt z =>
    obtain ⟨t, rfl⟩ := r1
    cases ha : z.cps.all (· < 128)
    · exact wpAny_pyIter_wide ha (pi_one (tk := s1.toks) I1 _ (turn_str _ z t "str_iterator" (.inr rfl)) ⟨_, Heap.get?_push_size _ rfl, rfl, rfl⟩ q)
    · exact wpAny_pyIter_ascii ha (pi_one (tk := s1.toks) I1 _ (turn_str _ z t "str_ascii_iterator" (.inl rfl)) ⟨_, Heap.get?_push_size _ rfl, rfl, rfl⟩ q)
end MP
set_option Elab.async false
set_option linter.all false
set_option maxRecDepth 100000
set_option maxHeartbeats 2000000
/-! MP8: a dict's display, its pairs made while nobody sees it; what a loop walks, by the evaluator's values. -/
namespace MP
open PySem PySem.Spec PyProof.Rows L2
section
variable {X : Cx} {pins : List (Addr × Obj)} {σ : L2.St} {H : Hp} {s : Shared} {h' : Heap}
/-- an object that was not tracked is changed, and tracked from now on -/
theorem track {p : Addr} {o : HO} {t' : Nat} (I : Inv X pins σ H s) (f : FpOk X pins H p) (hs : Heap.SameBut p s.heap h') (he : ∃ q, h'.get? p = some q) (new : ObjOk X.prog X.w (upd H p o) h' p o) :
    Inv X pins σ (upd H p o) { s with heap := h', toks := t' } := by
  obtain ⟨f0, f1, f2, f3, f4, f5⟩ := f
  refine I.step (g' := s.gens) (d' := s.drawn) (ch := [p]) (fun b hb => ?_) (fun b ob _ _ hc e _ => (hs.2 b fun z => hc (by simp [z])).trans e) (fun b ob _ _ hc e _ => ⟨ob.slots, (hs.2 b fun z => hc (by simp [z])).trans e⟩)
    (fun b ob hc e n => by rw [upd_ne fun z => hc (by simp [z])]; exact n) (fun b ob hc e => ⟨ob, (hs.2 b fun z => hc (by simp [z])).trans e⟩) (fun b xs e => by rw [upd_ne (ne_of_none e f0)]; exact e) (fun b ob u e => by rw [upd_ne (ne_of_none e f0)]; exact e)
    (fun b ps e => ⟨#[], by rw [upd_ne (ne_of_none e f0), e]; simp⟩) (fun m hm => ?_) (fun b u e => ?_) I.bare
  · have e : b = p := by simpa using hb
    subst e
    exact ⟨f3, f1, f4, f5⟩
  · obtain ⟨ob, es, ep, ho, r⟩ := hm
    exact ⟨ob, es, ep, (hs.2 _ (Ne.symm f1)).trans ho, r⟩
  · by_cases hb : b = p
    · subst hb; rw [upd_same] at e; cases e; exact new
    · rw [upd_ne hb] at e
      refine (I.hok b u e).stay (fun c v hc q => (hs.2 c ?_).trans q) (fun c q => by rw [upd_ne (ne_of_none q f0)]; exact q) fun c xs q => by rw [upd_ne (ne_of_none q f0)]; exact q
      rcases hc with z | z
      · rw [z]; exact hb
      · exact ne_of_none z f0
end
def tDisp2 (trs : List (TE × TE)) : TE := fun σ H Q => tPairs trs σ H fun ps H2 => ∃ kvs : List (Key × V), ps = kvs.map (fun kv => (kV kv.1, kv.2)) ∧ kvs.length ≤ 15 ∧ ∀ p, H2 p = none → Q (.ref p) (upd H2 p (.dK (mergeK [] kvs)))
theorem pe_disp2 {X : Cx} {pos : Pos} {keys : List (Option Expr)} {values : List Expr} {trs : List (TE × TE)} (h : PPs X pos keys values trs) (hall : keys.all (·.isSome) = true) (hl : keys.length = values.length) (h0 : keys ≠ [])
    (h15 : keys.length ≤ 15) : PE X (.Dict keys values pos) (tDisp2 trs) := by
  refine ⟨fun pins s σ H Q I q => ?_⟩
  have hn := I.hok.fresh (Nat.le_refl s.heap.objs.size)
  have ho : (s.heap.push { cls := .type "dict", data := .dict #[] }).get? s.heap.objs.size = some { cls := .type "dict", data := .dict #[] } := Heap.get?_push_size _ rfl
  have I1 : Inv X pins σ H { s with heap := s.heap.push { cls := .type "dict", data := .dict #[] } } := I.kept (t' := s.toks) fun b u e => Heap.get?_push_of_some _ e
  have f1 := I.fpOk (H' := H) (Nat.le_refl _) hn
  have I1' : Inv X (pins ++ [(s.heap.objs.size, { cls := .type "dict", data := .dict #[] })]) σ H { s with heap := s.heap.push { cls := .type "dict", data := .dict #[] } } := I1.pins_of fun p hp => by
    rcases List.mem_append.mp hp with hp | hp
    · exact I1.pin p (List.mem_append_right _ hp)
    · have e : p = (s.heap.objs.size, { cls := .type "dict", data := .dict #[] }) := by simpa using hp
      subst e
      exact ⟨ho, hn, f1.2.1, f1.2.2.1, fun v z => nomatch z⟩
  refine wpAny_Dict_walk (knd := mixKind X.prog X.w) hall hl h0 h15 (thn (h.run _ _ σ _ _ I1' q) fun ws s2 ⟨ps, H2, I2, rel, kvs, ep, lk, q2⟩ => ?_)
  subst ep
  obtain ⟨rs, c, rk⟩ := carries_of (P := X.prog) (w := X.w) rel
  obtain ⟨e2, n2, _⟩ := I2.pin (s.heap.objs.size, { cls := .type "dict", data := .dict #[] }) (List.mem_append_right _ (List.mem_append_right _ (by simp)))
  have dd : s2.heap.DictOf (mixKind X.prog X.w) s.heap.objs.size [] := by
    have z := Heap.DictOf.new (knd := mixKind X.prog X.w) s.heap
    obtain ⟨od, es, epn, ho2, r⟩ := z
    rw [ho] at ho2; cases ho2
    exact ⟨_, es, epn, e2, r⟩
  have hd : (s.heap.objs.size == sysModules) = false := beq_eq_false_iff_ne.mpr (Ne.symm (Nat.ne_of_lt I.big))
  refine ⟨rs, c, dd, fun h' dd' hs => ⟨.ref s.heap.objs.size, _, ?_, rfl, q2 _ n2⟩⟩
  have hz : (mergeK [] kvs).length ≤ sizeLine := by
    have h1 := length_mergeK kvs []
    rw [List.length_nil] at h1
    rw [sizeLine_eq]; omega
  have he : ∃ q, h'.get? s.heap.objs.size = some q := let ⟨q, _, _, hq, _⟩ := dd'; ⟨q, hq⟩
  have I3 : Inv X pins σ H2 s2 := I2.unpinned
  exact track (p := s.heap.objs.size) (t' := s2.toks + ws.length) I3 ⟨n2, f1.2⟩ hs he (dk_new hz hd (rk.merge .nil) dd')

/-! ### a list that is being made is hidden -/
def hide (ds : List Addr) (H : Hp) : Hp := fun b => if b ∈ ds then none else H b
theorem hide_nil {H : Hp} : hide [] H = H := by funext b; simp [hide]
theorem hide_in {ds : List Addr} {H : Hp} {b : Addr} (h : b ∈ ds) : hide ds H b = none := by unfold hide; rw [if_pos h]
theorem hide_out {ds : List Addr} {H : Hp} {b : Addr} (h : b ∉ ds) : hide ds H b = H b := by unfold hide; rw [if_neg h]
theorem hide_le {ds : List Addr} {H : Hp} {b : Addr} {o : HO} (h : hide ds H b = some o) : H b = some o := by
  unfold hide at h
  split at h
  · cases h
  · exact h
theorem hide_none {ds : List Addr} {H : Hp} {b : Addr} (h : H b = none) : hide ds H b = none := by
  unfold hide
  split
  · rfl
  · exact h
theorem hide_upd {ds : List Addr} {H : Hp} {b : Addr} {o : HO} (h : b ∉ ds) : hide ds (upd H b o) = upd (hide ds H) b o := by
  funext c
  by_cases q : c = b
  · subst q; rw [hide_out h, upd_same, upd_same]
  · rw [upd_ne q]
    by_cases z : c ∈ ds
    · rw [hide_in z, hide_in z]
    · rw [hide_out z, hide_out z, upd_ne q]
theorem hide_one {H : Hp} {D : Addr} {o : HO} (h : H D = none) : hide [D] (upd H D o) = H := by
  funext c
  by_cases q : c = D
  · subst q; rw [hide_in (by simp), h]
  · rw [hide_out (by simpa using q), upd_ne q]
theorem hide_back {H : Hp} {D : Addr} {o : HO} (h : H D = some o) : upd (hide [D] H) D o = H := by
  funext c
  by_cases q : c = D
  · subst q; rw [upd_same, h]
  · rw [upd_ne q, hide_out (by simpa using q)]
section
variable {X : Cx} {pins : List (Addr × Obj)} {σ : L2.St} {H : Hp} {s : Shared} {D : Addr} {acc : List V}
theorem inv_fsFree (I : Inv X pins σ H s) {b : Addr} (hb : b ∈ X.fs) : H b = none := by
  obtain ⟨_, o, ho, _⟩ := I.ok.funs.mem hb
  exact I.base.free b o ho (I.ok.frf b hb) fun hx => I.ok.exfs b hx hb
theorem inv_hideL (I : Inv X pins σ H s) (hD : H D = some (.lst acc)) : ∃ o : Obj, s.heap.get? D = some o ∧ ObjOk X.prog X.w H s.heap D (.lst acc) ∧ Inv X (pins ++ [(D, o)]) σ (hide [D] H) s := by
  have ok := I.hok D _ hD
  obtain ⟨z, its, n, r, e⟩ := id ok
  have ne : ∀ {b : Addr} {o : HO}, H b = some o → (∀ xs, o ≠ .lst xs) → hide [D] H b = some o := fun {b o} h q => by
    rw [hide_out]; exact h
    intro hb
    have : b = D := by simpa using hb
    subst this
    rw [hD] at h; cases h
    exact q _ rfl
  refine ⟨_, e, ok, I.ok, I.os, I.bare, ⟨I.base.keep, I.base.slot, fun b o e n hx => hide_none (I.base.free b o e n hx), I.base.there, fun b xs e => ne (I.base.tups b xs e) (fun _ q => nomatch q), fun b o u e => ne (I.base.frzs b o u e) (fun _ q => nomatch q), fun b ps e => ?_⟩,
    I.loc, I.cell, hide_none I.free, fun x c e => hide_none (I.freeC x c e), fun p hp => ?_, fun b u e => ?_, I.len⟩
  · obtain ⟨more, q⟩ := I.base.tbls b ps e
    exact ⟨more, ne q (fun _ q => nomatch q)⟩
  · rcases List.mem_append.mp hp with hp | hp
    · obtain ⟨h1, h2, h3⟩ := I.pin p (List.mem_append_left _ hp)
      exact ⟨h1, hide_none h2, h3⟩
    · rcases List.mem_append.mp hp with hp | hp
      · obtain ⟨h1, h2, h3⟩ := I.pin p (List.mem_append_right _ hp)
        exact ⟨h1, hide_none h2, h3⟩
      · have e1 := List.mem_singleton.mp hp
        subst e1
        refine ⟨e, hide_in (by simp), ?_, ?_, fun v q => ?_⟩
        · intro q
          have h1 := I.free
          rw [← show D = X.env.locals from q, hD] at h1
          cases h1
        · intro q
          have h1 := inv_fsFree I (show D ∈ X.fs from q)
          rw [hD] at h1
          cases h1
        · cases q
  · exact (I.hok b u (hide_le e)).stay (fun _ _ _ q => q) (fun c q => ne q (fun _ z => nomatch z)) fun c xs q => ne q (fun _ z => nomatch z)
theorem inv_showL {σ' : L2.St} {H4 : Hp} {s4 : Shared} {o : Obj} (I : Inv X pins σ H s) (hD : H D = some (.lst acc)) (ho : s.heap.get? D = some o) (I4 : Inv X (pins ++ [(D, o)]) σ' H4 s4) : H4 D = none ∧ Inv X pins σ' (upd H4 D (.lst acc)) s4 := by
  obtain ⟨e4, n4, _⟩ := I4.pin (D, o) (List.mem_append_right _ (List.mem_append_right _ (by simp)))
  have n4 : H4 D = none := n4
  have e4 : s4.heap.get? D = some o := e4
  have ne : ∀ {b : Addr} {o : HO}, H4 b = some o → upd H4 D (.lst acc) b = some o := fun {b o} h => by rw [upd_ne (ne_of_none h n4)]; exact h
  refine ⟨n4, I4.ok, I4.os, I4.bare, ⟨I4.base.keep, I4.base.slot, fun b ob e n hx => ?_, I4.base.there, fun b xs e => ne (I4.base.tups b xs e), fun b ob u e => ne (I4.base.frzs b ob u e), fun b ps e => ?_⟩,
    I4.loc, I4.cell, ?_, fun x c e => ?_, fun p hp => ?_, fun b u e => ?_, I4.len⟩
  · by_cases q : b = D
    · subst q
      have := I.base.free b ob e n hx
      rw [hD] at this; cases this
    · rw [upd_ne q]; exact I4.base.free b ob e n hx
  · obtain ⟨more, q⟩ := I4.base.tbls b ps e
    exact ⟨more, ne q⟩
  · rw [upd_ne]; exact I4.free
    intro q; have h1 := I.free; rw [q, hD] at h1; cases h1
  · rw [upd_ne]; exact I4.freeC x c e
    intro q; have h1 := I.freeC x c e; rw [q, hD] at h1; cases h1
  · have hp4 : p ∈ X.pn ++ (pins ++ [(D, o)]) := by
      rcases List.mem_append.mp hp with z | z
      · exact List.mem_append_left _ z
      · exact List.mem_append_right _ (List.mem_append_left _ z)
    obtain ⟨h1, h2, h3⟩ := I4.pin p hp4
    refine ⟨h1, ?_, h3⟩
    rw [upd_ne]; exact h2
    intro q; have h5 := (I.pin p hp).2.1; rw [q, hD] at h5; cases h5
  · by_cases q : b = D
    · subst q
      rw [upd_same] at e; cases e
      obtain ⟨z, its, n, r, e1⟩ := I.hok b _ hD
      rw [ho] at e1; cases e1
      exact ⟨z, its, n, r, e4⟩
    · rw [upd_ne q] at e
      exact (I4.hok b u e).stay (fun _ _ _ q => q) (fun c q => ne q) fun c xs q => ne q
end
/-- a list that is being made, hidden while e runs -/
def tHid (t : TE) : TE := fun σ H Q => ∃ D acc, H D = some (.lst acc) ∧ t σ (hide [D] H) fun v H4 => H4 D = none → Q v (upd H4 D (.lst acc))
theorem PE.hid {X : Cx} {e : Expr} {t : TE} (p : PE X e t) : PE X e (tHid t) := ⟨fun pins s σ H Q I ⟨D, acc, hD, h⟩ => by
  obtain ⟨o, ho, _, I2⟩ := inv_hideL I hD
  refine thn (p.run _ s σ _ _ I2 h) fun u s1 ⟨v, H1, I3, r, q⟩ => ?_
  obtain ⟨n, I4⟩ := inv_showL I hD ho I3
  exact ⟨v, _, I4, r, q n⟩⟩
def tHidT (t : TT) : TT := fun σ H Q => ∃ D acc, H D = some (.lst acc) ∧ t σ (hide [D] H) fun v H4 => H4 D = none → Q v (upd H4 D (.lst acc))
theorem PT.hid {X : Cx} {e : Expr} {t : TT} (p : PT X e t) : PT X e (tHidT t) := ⟨fun pins s σ H Q I ⟨D, acc, hD, h⟩ => by
  obtain ⟨o, ho, _, I2⟩ := inv_hideL I hD
  refine thn (p.run _ s σ _ _ I2 h) fun u s1 ⟨H1, I3, q⟩ => ?_
  obtain ⟨n, I4⟩ := inv_showL I hD ho I3
  exact ⟨_, I4, q n⟩⟩

/-! ### what a loop walks -/
variable {K : PySem.W.Frag} {cA : Str → Addr} {H H' H1 : Hp} {ρ ρ' ρ1 : Rho} {h h' : Hq} {w : W} {v : V}
def WalkW (K : PySem.W.Frag) (cA : Str → Addr) (J : It) (xs : List W) (H1 : Hp) (ρ1 : Rho) : Prop :=
  ∀ (ds : List Addr) (h2 : Hq) (H2 : Hp) (ρ2 : Rho), (∀ d ∈ ds, H2 d ≠ none) → Ext H1 ρ1 (hide ds H2) ρ2 → Rep K cA ρ2 h2 (hide ds H2) →
    (∀ i, i < xs.length → J.go i H2 ∧ ∀ x H3, J.yld i H2 x H3 → ∃ w, xs[i]? = some w ∧ Ext (hide ds H2) ρ2 (hide ds H3) ρ2 ∧ Rep K cA ρ2 h2 (hide ds H3) ∧ RW K (hide ds H3) ρ2 w x ∧ ∀ d ∈ ds, H3 d = H2 d) ∧ J.stop xs.length H2
theorem rws_signs : ∀ cs : List Nat, RWs K H ρ (cs.map fun c => W.str ⟨#[c]⟩) (cs.map fun c => V.str ⟨#[c]⟩)
  | [] => .nil
  | c :: cs => .cons (.str _) (rws_signs cs)
theorem src_of {xs : List W} (e : srcW w = some xs) (rep : Rep K cA ρ h H) (q : RW K H ρ w v) :
    ∃ sr vs, v = Sr.v sr ∧ (∀ H2 ρ2, Ext H ρ H2 ρ2 → sr.Has K H2 vs) ∧ RWs K H ρ xs vs := by
  cases q with
  | str z =>
    cases e
    exact ⟨.txt z, _, rfl, fun _ _ _ => rfl, rws_signs _⟩
  | tup ha rs =>
    cases e
    exact ⟨.tup _, _, rfl, fun H2 ρ2 x => SqT.of (x.keep _ _ ha (rep.tupOk.not ha)), rs⟩
  | lst ha n rs =>
    cases e
    exact ⟨.lst _, _, rfl, fun H2 ρ2 x => SqL.of (x.keep _ _ ha n), rs⟩
  | scrF ha n =>
    cases e
    exact ⟨.lst _, _, rfl, fun H2 ρ2 x => .inl (.inr ⟨_, x.keep _ _ ha n⟩), rws_ints _⟩
  | scrK ha =>
    cases e
    exact ⟨.lst _, _, rfl, fun H2 ρ2 x => .inr ha, rws_ints _⟩
  | _ => cases e
theorem RWs.at {xs : List W} {vs : List V} {i : Nat} (r : RWs K H ρ xs vs) (hi : i < xs.length) : ∃ w v, xs[i]? = some w ∧ vs[i]? = some v ∧ RW K H ρ w v := by
  obtain ⟨v, h1, h2⟩ := r.get (i := i) (w := xs[i]) (by simp [hi])
  exact ⟨xs[i], v, by simp [hi], h1, h2⟩
theorem Rd.unhide {ds : List Addr} {H : Hp} {a : Addr} {u : HO} (q : Rd (hide ds H) a u) : Rd H a u := by
  rcases q with q | ⟨o, q⟩
  · exact .inl (hide_le q)
  · exact .inr ⟨o, hide_le q⟩
theorem Sr.Has.unhide {sr : Sr} {ds : List Addr} {vs : List V} (q : sr.Has K (hide ds H) vs) : sr.Has K H vs := by
  cases sr with
  | lst a =>
    rcases (show SqL K (hide ds H) a vs from q) with q | q
    · exact .inl (Rd.unhide q)
    · exact .inr q
  | tup a =>
    rcases (show SqT K (hide ds H) a vs from q) with q | q
    · exact .inl (Rd.unhide q)
    · exact .inr q
  | txt z => exact q
theorem walk_oneS {sr : Sr} {xs : List W} {vs : List V} (t : TupOk H ρ) (hk : ∀ H2 ρ2, Ext H ρ H2 ρ2 → sr.Has K H2 vs) (r : RWs K H ρ xs vs) : WalkW K cA (ItS K sr) xs H ρ := by
  intro ds h2 H2 ρ2 hd ex rep
  have q := Sr.Has.unhide (hk _ ρ2 ex)
  have r2 := r.mono ex t
  refine ⟨fun i hi => ?_, ?_⟩
  · obtain ⟨w, v, h1, h2', h3⟩ := r2.at hi
    have hiv : i < vs.length := by rw [← r.length]; exact hi
    cases sr with
    | lst a =>
      refine ⟨⟨vs, v, q, h2'⟩, fun x H3 y => ?_⟩
      obtain ⟨rfl, y⟩ := y
      have := y vs q
      rw [h2'] at this; cases this
      exact ⟨w, h1, Ext.refl, rep, h3, fun _ _ => rfl⟩
    | tup a =>
      refine ⟨⟨vs, v, q, h2'⟩, fun x H3 y => ?_⟩
      obtain ⟨rfl, y⟩ := y
      have := y vs q
      rw [h2'] at this; cases this
      exact ⟨w, h1, Ext.refl, rep, h3, fun _ _ => rfl⟩
    | txt z =>
      have ez : vs = z.cps.toList.map fun c => V.str ⟨#[c]⟩ := q
      refine ⟨show i < z.cps.size by rw [ez] at hiv; simpa using hiv, fun x H3 y => ?_⟩
      obtain ⟨rfl, c, hc, rfl⟩ := y
      rw [ez, List.getElem?_map, Array.getElem?_toList, hc] at h2'
      cases h2'
      exact ⟨w, h1, Ext.refl, rep, h3, fun _ _ => rfl⟩
  · cases sr with
    | lst a => exact ⟨vs, q, by rw [r.length]; exact Nat.le_refl _⟩
    | tup a => exact ⟨vs, q, by rw [r.length]; exact Nat.le_refl _⟩
    | txt z =>
      have ez : vs = z.cps.toList.map fun c => V.str ⟨#[c]⟩ := q
      show z.cps.size ≤ xs.length
      rw [r.length, ez]
      simp
theorem fresh_out {ds : List Addr} {T : Addr} (hd : ∀ d ∈ ds, H d ≠ none) (n : H T = none) : T ∉ ds := fun z => hd T z n
theorem upd_in {ds : List Addr} {T : Addr} {o : HO} (n : T ∉ ds) : ∀ d ∈ ds, upd H T o d = H d := fun d hd => upd_ne fun e => n (e ▸ hd)
theorem walk_enumS {sr : Sr} {xs : List W} {vs : List V} (t : TupOk H ρ) (hk : ∀ H2 ρ2, Ext H ρ H2 ρ2 → sr.Has K H2 vs) (r : RWs K H ρ xs vs) : WalkW K cA (IteS K sr) (xs.zipIdx.map fun p => .tup [.int p.2, p.1]) H ρ := by
  intro ds h2 H2 ρ2 hd ex rep
  have q := Sr.Has.unhide (hk _ ρ2 ex)
  have r2 := r.mono ex t
  refine ⟨fun i hi => ?_, ?_⟩
  · have hi' : i < xs.length := by simpa using hi
    obtain ⟨w, v, h1, h2', h3⟩ := r2.at hi'
    refine ⟨⟨vs, v, q, h2'⟩, fun x H3 y => ?_⟩
    obtain ⟨T, x', rfl, nT, rfl, y⟩ := y
    have := y vs q
    rw [h2'] at this; cases this
    have no := fresh_out hd nT
    rw [hide_upd no]
    have nT' := hide_none (ds := ds) nT
    refine ⟨.tup [.int (i : Nat), w], ?_, Ext.fresh nT', rep.fresh nT', .tup upd_same (.cons (.int _) (.cons (h3.mono (Ext.fresh nT') rep.tupOk) .nil)), upd_in no⟩
    rw [List.getElem?_map, List.getElem?_zipIdx, h1]
    simp
  · exact ⟨vs, q, by simp [r.length]⟩
theorem walk_zipS {sa sb : Sr} {xs ys : List W} {vs us : List V} (t : TupOk H ρ) (ha : ∀ H2 ρ2, Ext H ρ H2 ρ2 → sa.Has K H2 vs) (hb : ∀ H2 ρ2, Ext H ρ H2 ρ2 → sb.Has K H2 us) (r : RWs K H ρ xs vs) (r' : RWs K H ρ ys us) :
    WalkW K cA (ItzS K sa sb) ((xs.zip ys).map fun p => .tup [p.1, p.2]) H ρ := by
  intro ds h2 H2 ρ2 hd ex rep
  have q := Sr.Has.unhide (ha _ ρ2 ex)
  have q' := Sr.Has.unhide (hb _ ρ2 ex)
  have r2 := r.mono ex t
  have r2' := r'.mono ex t
  refine ⟨fun i hi => ?_, ?_⟩
  · have hi' : i < xs.length ∧ i < ys.length := by
      have : i < min xs.length ys.length := by simpa using hi
      omega
    obtain ⟨w, v, h1, h2', h3⟩ := r2.at hi'.1
    obtain ⟨w', v', h1', h2'', h3'⟩ := r2'.at hi'.2
    refine ⟨⟨vs, us, v, v', q, q', h2', h2''⟩, fun x H3 y => ?_⟩
    obtain ⟨T, x', y', rfl, nT, rfl, y1, y2⟩ := y
    have e1 := y1 vs q
    rw [h2'] at e1; cases e1
    have e2 := y2 us q'
    rw [h2''] at e2; cases e2
    have no := fresh_out hd nT
    rw [hide_upd no]
    have nT' := hide_none (ds := ds) nT
    refine ⟨.tup [w, w'], ?_, Ext.fresh nT', rep.fresh nT', .tup upd_same (.cons (h3.mono (Ext.fresh nT') rep.tupOk) (.cons (h3'.mono (Ext.fresh nT') rep.tupOk) .nil)), upd_in no⟩
    rw [List.getElem?_map, List.getElem?_zip_eq_some (z := (w, w')).mpr ⟨h1, h1'⟩]
    rfl
  · exact ⟨vs, us, q, q', by simp [r.length, r'.length]⟩
theorem walk_rangeS {n : Nat} : WalkW K cA (Itr 0 n) ((List.range n).map fun (i : Nat) => W.int (i : Int)) H ρ := by
  intro ds h2 H2 ρ2 hd ex rep
  refine ⟨fun i hi => ?_, ?_⟩
  · have hi' : i < n := by simpa using hi
    refine ⟨hi', fun x H3 y => ?_⟩
    obtain ⟨rfl, rfl⟩ := y
    refine ⟨.int (i : Int), by simp [hi'], Ext.refl, rep, ?_, fun _ _ => rfl⟩
    rw [Int.zero_add]
    exact .int _
  · show n ≤ _
    simp
end MP
set_option Elab.async false
set_option linter.all false
set_option maxRecDepth 100000
set_option maxHeartbeats 2000000
/-! MP9: side conditions by checks. -/
namespace MP
open PySem PySem.Spec PyProof.Rows L2
theorem star_cons {e : Expr} {es : List Expr} {env : Env} (h : nst e = true) : starEach (e :: es) env = (false, eval e env) :: starEach es env := by
  cases e <;> first | rfl | cases h
theorem star_any {pos : Pos} {env : Env} : ∀ {es : List Expr}, nstL es = true → (backTo pos (starEach es env)).any (·.1) = false
  | [], _ => rfl
  | e :: es, h => by
    unfold nstL at h
    rw [Bool.and_eq_true] at h
    rw [star_cons h.1]
    have ih := star_any (pos := pos) (env := env) h.2
    unfold backTo at ih ⊢
    simp only [List.map_cons, List.any_cons, Bool.false_or]
    exact ih
theorem star_all {pos : Pos} {env : Env} : ∀ {es : List Expr}, nstL es = true → (backTo pos (starEach es env)).all (fun x => !x.1) = true
  | [], _ => rfl
  | e :: es, h => by
    unfold nstL at h
    rw [Bool.and_eq_true] at h
    rw [star_cons h.1]
    have ih := star_all (pos := pos) (env := env) h.2
    unfold backTo at ih ⊢
    simp only [List.map_cons, List.all_cons, Bool.not_false, Bool.true_and]
    exact ih
def plT : Expr → Bool
  | .UnaryOp .Not _ _ => false | .BoolOp .. => false | .IfExp .. => false | .Compare .. => false | _ => true
theorem isTrue_pl {e : Expr} {env : Env} (h : plT e = true) : ∀ whole, isTrue e env whole = (do let v ← whole; standAt e.pos; holding [v] (truthy v)) := by
  intro whole
  cases e with
  | UnaryOp op x p => cases op <;> first | rfl | cases h
  | _ => first | rfl | cases h
theorem plainIx {b : Expr} (h : nsl b = true) : PlainIx b := by
  intro o i
  cases b <;> first | rfl | cases h
theorem behind_of {b : Expr} {op : CmpOp} (h : nset b = true) : behindInMarks op b = false := by
  cases b <;> first | rfl | cases h
theorem fold_of {b : Expr} {env : Env} (h : nset b = true) : ∀ x, foldedSetIterable b env x = pure x := by
  intro x
  cases b <;> first | rfl | cases h
theorem base_of {o : Expr} {attr : Str} {env : Env} {wh : Sem Value} (h : baseOk o = true) : attributeBase o attr env wh = wh := by
  unfold attributeBase
  split
  · cases h
  · rfl
/-- a comprehension's value stored on one line -/
def swB (sc : Scope) (y : Str) (py : Pos) : Expr → Bool
  | .ListComp _ _ s pos => decide (sc.names.lookup y = some .local) && ((py.line == pos.line) && !(s.names.any fun (n, k) => n == y && (k == .local || k == .cell)))
  | .SetComp .. => true | .DictComp .. => true | _ => false
def ncomp : Expr → Bool
  | .ListComp .. => false | .SetComp .. => false | .DictComp .. => false | _ => true
theorem sw_nc {e : Expr} {t : Option Expr} {l : Nat} {env : Env} (h : ncomp e = true) : swapsWith e t l env = pure false := by
  cases e <;> first | rfl | cases h
theorem sw_at {e : Expr} {y : Str} {py : Pos} {l : Nat} {env : Env} (hk : env.scope.kind = .function) (h : swB env.scope y py e = false) : swapsWith e (some (.Name y py)) l env = pure false := by
  cases e with
  | ListComp elt gs s pos =>
    unfold swB at h
    have hb : env.blockKind = .function := by unfold Env.blockKind; rw [hk]; rfl
    unfold swapsWith
    simp only [hb]
    show (pure ((ScopeKind.function == .function) && (env.kindOf y == some .local) && (py.line == pos.line) && !(s.names.any fun (n, k) => n == y && (k == .local || k == .cell))) : Sem Bool) = pure false
    congr 1
    have e1 : (env.kindOf y == some NameKind.local) = decide (env.scope.names.lookup y = some .local) := by
      show (env.scope.names.lookup y == some NameKind.local) = _
      rw [Bool.eq_iff_iff]; simp
    rw [e1]
    simpa [Bool.and_assoc] using h
  | SetComp => cases h
  | DictComp => cases h
  | _ => rfl
end MP
set_option Elab.async false
set_option linter.all false
set_option maxRecDepth 100000
set_option maxHeartbeats 2000000
/-! MP10: what holds of the globals; the readings' steps. -/
namespace MP
open PySem PySem.Spec PyProof.Rows L2

/-- a function's promise -/
def OutC (K : PySem.W.Frag) (cA : Str → Addr) (H : Hp) (ρ : Rho) (Q : VK) (E : XK) (r : R W) : Prop := match r with
  | .ok w h' => ∀ H' ρ', Rep K cA ρ' h' H' → Ext H ρ H' ρ' → ∀ v, RW K H' ρ' w v → Q v H'
  | .exc c h' => ∀ H' ρ', Rep K cA ρ' h' H' → Ext H ρ H' ρ' → E (.ref (cA c)) none H'
  | .bad => False
def spW (K : PySem.W.Frag) (cA : Str → Addr) (m : List W → Hq → R W) : Sp := fun vs H Q E => ∃ ws h ρ, Rep K cA ρ h H ∧ RWs K H ρ ws vs ∧ OutC K cA H ρ Q E (m ws h)
def bltN : List Str := ["len", "tuple", "list", "int", "str", "abs", "all", "any", "sorted", "max", "min", "isinstance", "set", "zip", "range", "enumerate", "bool", "dict"]
structure Gok (prog : Program) (w : World) (K : PySem.W.Frag) (mg : Str → Option Value) (base : Heap) (cA : Str → Addr) (fns exs : List Str) (G : Gam) (k : Nat) : Prop where
  con : ∀ x a, G.con x = some a → ∃ v u, mg x = some u ∧ RelV v u ∧ ∀ H ρ, RW K H ρ a v
  blt : ∀ x ∈ bltN, mg x = none
  fn : ∀ f ∈ fns, ∃ fa fd ps, mg f = some (.ref fa) ∧ PySem.W.keepIn K (.ref fa) = true ∧ Binds K fd ps [] ∧ FnOk prog w K mg base (L2.CX prog w) k fa fd ps (spW K cA (G.fn f))
  exc : ∀ c ∈ exs, ∃ bmB B newId initId, ExcBaseFacts B newId initId bmB ∧ PySem.W.excIn K (cA c) bmB newId = true ∧ mg c = some (.ref (cA c)) ∧ PySem.W.keepIn K (.ref (cA c)) = true ∧
    PySem.W.subIn K (.ref (cA c)) (.type "BaseException") = some true ∧ PySem.W.typeIn K (.ref (cA c)) = some (.type "type")
/-- a context that the checker's c tells -/
structure Gd (X : Cx) (W' : WX) (c : SC) (cA : Str → Addr) (G : Gam) (k : Nat) : Prop where
  nN : X.N = c.N
  nd : c.N.Nodup
  sc : X.env.scope = c.sc
  fn : ∀ x, c.fn x = true → X.fn x = true
  kind : X.env.scope.kind = .function
  calm : X.calm = true
  room : Room k X.A
  tk : Takes X W'
  ok : Gok X.prog X.w X.K X.mg X.base cA c.fns c.exs G k
section
variable {X : Cx} {W' : WX} {c : SC} {cA : Str → Addr} {G : Gam} {k : Nat}
theorem Gd.ix (g : Gd X W' c cA G k) {i : Nat} {x : Str} (h : nameAt c i x = true) : X.N[i]? = some x := by rw [g.nN]; exact of_decide_eq_true h
theorem Gd.hN (g : Gd X W' c cA G k) : X.N.Nodup := by rw [g.nN]; exact g.nd
theorem Gd.vis (g : Gd X W' c cA G k) {x : Str} (h : visB c.sc x = true) : Vis X.env.scope x := by
  rw [g.sc]
  unfold visB at h
  split at h
  · exact .inl ‹_›
  · exact .inr (.inl ‹_›)
  · exact .inr (.inr ‹_›)
  · cases h
theorem Gd.loc (g : Gd X W' c cA G k) {x : Str} (h : locB c x = true) : Loc X.env.scope x ∧ (X.fn x = true ∨ X.env.scope.names.lookup x = some .local) := by
  rw [g.sc]
  unfold locB at h
  split at h
  · exact ⟨.inl ‹_›, .inr ‹_›⟩
  · exact ⟨.inr ‹_›, .inl (g.fn _ h)⟩
  · cases h
theorem Gd.gl (g : Gd X W' c cA G k) {x : Str} (h : glB c.sc x = true) : Gl X x := by
  unfold glB at h
  split at h
  · show X.env.scope.names.lookup x = _
    rw [g.sc]; assumption
  · cases h
theorem plN_of {x : Str} (h : plN x = true) : (x == ("__debug__" : Str)) = false ∧ (x == ("__classdict__" : Str)) = false ∧ x ≠ "__name__" := by
  unfold plN at h
  simp only [Bool.and_eq_true, Bool.not_eq_true', decide_eq_false_iff_not] at h
  exact ⟨h.1, h.2.1, h.2.2⟩
theorem Gd.uni (g : Gd X W' c cA G k) : X.A.units + 65 < cLine := by have := g.room.un; omega
theorem Gd.uni1 (g : Gd X W' c cA G k) : X.A.units + 1 < cLine := by have := g.room.un; omega
end

section
variable {K : PySem.W.Frag} {cA : Str → Addr} {H H' H1 : Hp} {ρ ρ' ρ1 : Rho} {s : Sto} {σ σ2 : L2.St} {h h' : Hq} {W' W2 : WX}
theorem OutE.noExc {α β : Type} {r : R α} {f : α → Hq → R β} {q : β → Hq → Hp → Rho → Prop} (o : OutE K cA W' σ H ρ ((MP.noExc r).bind f) q) :
    OutE K cA W2 σ2 H ρ r fun a h1 H1 ρ1 => OutE K cA W' σ H1 ρ1 (f a h1) q := by
  cases r with
  | ok a h => exact fun H1 ρ1 _ e => OutE.ext (show OutE K cA W' σ H ρ (f a h) q from o) e
  | exc c h => exact o.elim
  | bad => exact o.elim
theorem OutE.now {α : Type} {a : α} {q : α → Hq → Hp → Rho → Prop} (rep : Rep K cA ρ h H) (o : OutE K cA W' σ H ρ (.ok a h) q) : q a h H ρ := o H ρ rep Ext.refl
theorem rd1 {β : Type} {m : Sto → Hq → R W} {f : W → Hq → R β} {q : β → Hq → Hp → Rho → Prop} {Qk : VK} (rep : Rep K cA ρ h H) (rst : RSt K H ρ s σ) (o : OutE K cA W' σ H ρ ((m s h).bind f) q)
    (hk : ∀ w h1 H1 ρ1 v, Rep K cA ρ1 h1 H1 → Ext H ρ H1 ρ1 → RSt K H1 ρ1 s σ → RW K H1 ρ1 w v → OutE K cA W' σ H1 ρ1 (f w h1) q → Qk v H1) : rdE K cA W' m σ H Qk :=
  ⟨s, h, ρ, rep, rst, o.bind.imp fun w h1 H1 ρ1 _ rep1 e o1 v rv => hk w h1 H1 ρ1 v rep1 e (rst.mono e rep.tupOk) rv o1⟩
theorem rd1T {β : Type} {m : Sto → Hq → R Bool} {f : Bool → Hq → R β} {q : β → Hq → Hp → Rho → Prop} {Qk : Bool → Hp → Prop} (rep : Rep K cA ρ h H) (rst : RSt K H ρ s σ) (o : OutE K cA W' σ H ρ ((m s h).bind f) q)
    (hk : ∀ b h1 H1 ρ1, Rep K cA ρ1 h1 H1 → Ext H ρ H1 ρ1 → RSt K H1 ρ1 s σ → OutE K cA W' σ H1 ρ1 (f b h1) q → Qk b H1) : rdT K cA W' m σ H Qk :=
  ⟨s, h, ρ, rep, rst, o.bind.imp fun w h1 H1 ρ1 _ rep1 e o1 => hk w h1 H1 ρ1 rep1 e (rst.mono e rep.tupOk) o1⟩
theorem rd1O {β : Type} {m : Sto → Hq → R (Option Int)} {f : Option Int → Hq → R β} {q : β → Hq → Hp → Rho → Prop} {Qk : Option Int → Hp → Prop} (rep : Rep K cA ρ h H) (rst : RSt K H ρ s σ) (o : OutE K cA W' σ H ρ ((m s h).bind f) q)
    (hk : ∀ b h1 H1 ρ1, Rep K cA ρ1 h1 H1 → Ext H ρ H1 ρ1 → RSt K H1 ρ1 s σ → OutE K cA W' σ H1 ρ1 (f b h1) q → Qk b H1) : rdO K cA W' m σ H Qk :=
  ⟨s, h, ρ, rep, rst, o.bind.imp fun w h1 H1 ρ1 _ rep1 e o1 => hk w h1 H1 ρ1 rep1 e (rst.mono e rep.tupOk) o1⟩
theorem rd1A {β : Type} {m : Sto → Hq → R (List W)} {f : List W → Hq → R β} {q : β → Hq → Hp → Rho → Prop} {Qk : List V → Hp → Prop} (rep : Rep K cA ρ h H) (rst : RSt K H ρ s σ) (o : OutE K cA W' σ H ρ ((m s h).bind f) q)
    (hk : ∀ ws h1 H1 ρ1 vs, Rep K cA ρ1 h1 H1 → Ext H ρ H1 ρ1 → RSt K H1 ρ1 s σ → RWs K H1 ρ1 ws vs → OutE K cA W' σ H1 ρ1 (f ws h1) q → Qk vs H1) : rdA K cA W' m σ H Qk :=
  ⟨s, h, ρ, rep, rst, o.bind.imp fun w h1 H1 ρ1 _ rep1 e o1 v rv => hk w h1 H1 ρ1 v rep1 e (rst.mono e rep.tupOk) rv o1⟩
/-- two values -/
theorem rd2 {β : Type} {ma mb : Sto → Hq → R W} {f : W → W → Hq → R β} {q : β → Hq → Hp → Rho → Prop} {Qk : V → V → Hp → Prop} (rep : Rep K cA ρ h H) (rst : RSt K H ρ s σ)
    (o : OutE K cA W' σ H ρ ((ma s h).bind fun x h => (mb s h).bind fun y h => f x y h) q)
    (hk : ∀ x y h1 H1 ρ1 v u, Rep K cA ρ1 h1 H1 → Ext H ρ H1 ρ1 → RSt K H1 ρ1 s σ → RW K H1 ρ1 x v → RW K H1 ρ1 y u → OutE K cA W' σ H1 ρ1 (f x y h1) q → Qk v u H1) :
    rdE K cA W' ma σ H fun v H1 => rdE K cA W' mb σ H1 fun u H2 => Qk v u H2 :=
  rd1 rep rst o fun x h1 H1 ρ1 v rep1 e1 st1 rx o1 => rd1 rep1 st1 o1 fun y h2 H2 ρ2 u rep2 e2 st2 ry o2 => hk x y h2 H2 ρ2 v u rep2 (e1.trans e2) st2 (rx.mono e2 rep1.tupOk) ry o2
/-- a value is there -/
theorem OutE.val {w : W} {v : V} {Q : VK} (rep : Rep K cA ρ h H) (rw : RW K H ρ w v) (o : OutE K cA W' σ H ρ (.ok w h) fun w _ H' ρ' => ∀ v, RW K H' ρ' w v → Q v H') : Q v H := o H ρ rep Ext.refl v rw
theorem OutE.fin {w : W} {Q : VK} (o : OutE K cA W' σ H ρ (.ok w h) fun w _ H' ρ' => ∀ v, RW K H' ρ' w v → Q v H') : Fin K cA ρ h H w Q := o
end
section
variable {X : Cx} {W' : WX} {cA : Str → Addr} {x : Expr} {m : Sto → Hq → R W}
/-- a value's test -/
theorem pt_rd (p : PE X x (rdE X.K cA W' m)) (h : plT x = true) : PT X x (rdT X.K cA W' fun s h => tstR (m s h)) :=
  PT.weak (pt_val p (isTrue_pl h)) fun σ H Q ⟨s, h, ρ, rep, rst, o⟩ => rd1 rep rst o fun w h1 H1 ρ1 v rep1 e st rw o1 => by
    cases w with
    | bl b => cases rw; exact ⟨b, rfl, o1.now rep1⟩
    | _ => exact o1.elim
end
end MP
set_option Elab.async false
set_option linter.all false
set_option maxRecDepth 100000
set_option maxHeartbeats 4000000
/-! MP11: the checker of expressions. -/
namespace MP
open PySem PySem.Spec PyProof.Rows L2

def keysB : List Str → List (Option Expr) → Bool
  | [], [] => true
  | k :: ks, some (.Constant (.str x) _ _) :: xs => decide (k = x) && keysB ks xs
  | _, _ => false
def Ty.tyn : Ty → Str
  | .non => "None" | .bl => "bool" | .int => "int" | .str => "str" | .tup => "tuple" | .lst => "list" | .dct => "dict"
def blkSC (c : SC) (scope : Scope) : SC := ⟨c.N, relS scope c.sc, fun x => scope.names.lookup x == some .cell, c.fns, c.exs⟩
def blkB (c : SC) (scope : Scope) (own : List (Str × Nat)) : Bool :=
  decide (scope.kind = .function) && ((scope.names.all fun y => scope.names.lookup y.1 == some y.2) && ((own.all fun p => c.N[p.2]? == some p.1) &&
    ((scope.names.all fun y => !(y.2 == .free) || (c.sc.names.lookup y.1 == some .cell || c.sc.names.lookup y.1 == some .free)) &&
      (scope.names.all fun y => !(y.2 == .local || y.2 == .cell) || ((own.any fun p => p.1 == y.1) || !(c.N.any fun n => n == y.1))))))
mutual
def T.vars : T → List Nat
  | .name i => [i]
  | .tup ts => Ts.vars ts
def Ts.vars : Ts → List Nat
  | .nil => []
  | .cons t ts => T.vars t ++ Ts.vars ts
end
mutual
def okT (c : SC) : T → Expr → Bool
  | .name i, x => match x with
    | .Name y _ => nameAt c i y && locB c y
    | _ => false
  | .tup ts, x => match x with
    | .Tuple xs _ _ => okTs c ts xs
    | _ => false
def okTs (c : SC) : Ts → List Expr → Bool
  | .nil, xs => match xs with
    | [] => true
    | _ => false
  | .cons t ts, xs => match xs with
    | x :: xs => okT c t x && okTs c ts xs
    | [] => false
end
def isTup : Expr → Bool
  | .Tuple .. => true | _ => false
mutual
def okE (c : SC) : E → Expr → Bool
  | .cst w, x => match x with
    | .Constant k _ _ => cstB w k
    | _ => false
  | .var i, x => match x with
    | .Name y _ => nameAt c i y && (visB c.sc y && plN y)
    | _ => false
  | .glb g, x => gname c g x
  | .tup es, x => match x with
    | .Tuple xs _ _ => okEs c es xs && decide (es.len ≤ 1000)
    | _ => false
  | .lst es, x => match x with
    | .List xs _ => okEs c es xs && decide (es.len ≤ 1000)
    | _ => false
  | .mlst es, x => match x with
    | .List xs _ => okEs c es xs && decide (es.len ≤ 1000)
    | _ => false
  | .frz a, x => plT x && okE c a x
  | .bin o a b, x => match x with
    | .BinOp l op r _ => o.is op && (okE c a l && okE c b r)
    | _ => false
  | .addm a b, x => match x with
    | .BinOp l .Add r _ => okE c a l && okE c b r
    | _ => false
  | .neg a, x => match x with
    | .UnaryOp .USub y _ => okE c a y
    | _ => false
  | .cmp o a b, x => match x with
    | .Compare l [op] [r] _ => o.is op && (nset r && (okE c a l && okE c b r))
    | _ => false
  | .chain o p a b d, x => match x with
    | .Compare l [o1, o2] [m, r] _ => o.is o1 && (p.is o2 && (nset r && (okE c a l && (okE c b m && okE c d r))))
    | _ => false
  | .and_ a b, x => match x with
    | .BoolOp .And [l, r] _ => okE c a l && okE c b r
    | .BoolOp .And (l :: r :: r2 :: rs) p => okE c a l && okE c b (.BoolOp .And (r :: r2 :: rs) p)
    | _ => false
  | .or_ a b, x => match x with
    | .BoolOp .Or [l, r] _ => okE c a l && okE c b r
    | .BoolOp .Or (l :: r :: r2 :: rs) p => okE c a l && okE c b (.BoolOp .Or (r :: r2 :: rs) p)
    | _ => false
  | .not_ a, x => match x with
    | .UnaryOp .Not y _ => okE c a y
    | _ => false
  | .ite d a b, x => match x with
    | .IfExp t y z _ => okE c d t && (okE c a y && okE c b z)
    | _ => false
  | .idx a i, x => match x with
    | .Subscript y z _ => nsl z && (okE c a y && okE c i z)
    | _ => false
  | .slc a lo hi, x => match x with
    | .Subscript y (.Slice l u none _) _ => okE c a y && (okEo c lo l && okEo c hi u)
    | _ => false
  | .call f es, x => match x with
    | .Call (.Name y _) (z :: zs) [] _ => decide (y = f) && (glB c.sc f && (plN f && (c.fns.contains f && okEs c es (z :: zs))))
    | _ => false
  | .b1 f a, x => match x with
    | .Call (.Name y _) [z] [] _ => decide (y = f.nm) && (glB c.sc y && (nst z && okE c a z))
    | _ => false
  | .b2 f a b, x => match x with
    | .Call (.Name y _) [z, z2] [] _ => decide (y = f.nm) && (glB c.sc y && (nst z && (nst z2 && (okE c a z && okE c b z2))))
    | _ => false
  | .bm m o es, x => match m with
    | .append => match es with
      | .cons e .nil => match x with
        | .Call (.Attribute y n ap) [z] [] cp => decide (n = "append") && (baseOk y && ((ap.endLine == cp.line) && (nst z && (okE c o y && okE c e z))))
        | _ => false
      | _ => false
    | .dget => match es with
      | .cons e (.cons d .nil) => match x with
        | .Call (.Attribute y n ap) [z, z2] [] cp => decide (n = "get") && (baseOk y && ((ap.endLine == cp.line) && (nst z && (nst z2 && (okE c o y && (okE c e z && okE c d z2))))))
        | _ => false
      | _ => false
    | _ => false
  | .srt mu a, x => match x with
    | .Call (.Name y _) [z] [] _ => decide (y = "sorted") && (glB c.sc y && (nst z && okE c a z))
    | _ => false
  | .sset a, x => match x with
    | .Call (.Name y _) [.Call (.Name y2 _) [z] [] _] [] _ => decide (y = "sorted") && (glB c.sc y && (decide (y2 = "set") && (glB c.sc y2 && (nst z && okE c a z))))
    | _ => false
  | .isi a t, x => match x with
    | .Call (.Name y _) [z, .Name n _] [] _ => decide (y = "isinstance") && (glB c.sc y && (nst z && (okE c a z && (decide (n = t.tyn) && (glB c.sc n && !decide (t = .non))))))
    | _ => false
  | .dsp ks es, x => match x with
    | .Dict keys vals _ => keysB ks keys && (okEs c es vals && (decide ks.Nodup && (!ks.isEmpty && (decide (ks.length ≤ 15) && decide (ks.length = es.len)))))
    | _ => false
  | .lc own t kd its cond elt, x => match x with
    | .ListComp el [⟨tg, it, ifs, 0⟩] scope _ => blkB c scope own && (okI c kd its tg it && (okT (blkSC c scope) t tg && (nset it && (((T.vars t).all fun i => (own.map (·.2)).contains i) && (okEc (blkSC c scope) cond ifs && okE (blkSC c scope) elt el)))))
    | _ => false
  | .lc2 own vs1 t kd its t1 it1 elt, x => match x with
    | .ListComp el [⟨tg, it, [], 0⟩, ⟨tg1, itx1, [], 0⟩] scope _ => blkB c scope own && (okI c kd its tg it && (okT (blkSC c scope) t tg && (nset it && (nset itx1 && (((T.vars t).all fun i => (own.map (·.2)).contains i) && (((T.vars t1).all fun i => vs1.contains i) && ((vs1.all fun i => (own.map (·.2)).contains i) &&
        (okT (blkSC c scope) t1 tg1 && (okE (blkSC c scope) it1 itx1 && okE (blkSC c scope) elt el)))))))))
    | _ => false
  | _, _ => false
def okEs (c : SC) : Es → List Expr → Bool
  | .nil, xs => match xs with
    | [] => true
    | _ => false
  | .cons e es, xs => match xs with
    | x :: xs => nst x && (okE c e x && okEs c es xs)
    | [] => false
def okEo (c : SC) : Eo → Option Expr → Bool
  | .no, x => match x with
    | none => true
    | _ => false
  | .yes e, x => match x with
    | some y => okE c e y
    | _ => false
def okEc (c : SC) : Eo → List Expr → Bool
  | .no, x => match x with
    | [] => true
    | _ => false
  | .yes e, x => match x with
    | [y] => okE c e y
    | _ => false
def okI (c : SC) : Ik → Es → Expr → Expr → Bool
  | .one, es, tg, x => match es with
    | .cons e .nil => okE c e x
    | _ => false
  | .zip, es, tg, x => match es with
    | .cons e (.cons e2 .nil) => match x with
      | .Call (.Name y _) [z, z2] [] _ => decide (y = "zip") && (glB c.sc y && (nst z && (nst z2 && (isTup tg && (okE c e z && okE c e2 z2)))))
      | _ => false
    | _ => false
  | .enum, es, tg, x => match es with
    | .cons e .nil => match x with
      | .Call (.Name y _) [z] [] _ => decide (y = "enumerate") && (glB c.sc y && (nst z && (isTup tg && okE c e z)))
      | _ => false
    | _ => false
  | .range, es, tg, x => match es with
    | .cons e .nil => match x with
      | .Call (.Name y _) [z] [] _ => decide (y = "range") && (glB c.sc y && (nst z && okE c e z))
      | _ => false
    | _ => false
end
end MP
set_option Elab.async false
set_option linter.all false
set_option maxRecDepth 100000
set_option maxHeartbeats 4000000
/-! MP12: the expressions' rules, one by one. -/
namespace MP
open PySem PySem.Spec PyProof.Rows L2

structure Snd (X : Cx) (W' : WX) (cA : Str → Addr) (m : Sto → Hq → R W) (x : Expr) : Prop where
  pe : PE X x (rdE X.K cA W' m)
  pt : PT X x (rdT X.K cA W' fun s h => tstR (m s h))
  pw : ∀ op vs p, x = .BoolOp op vs p → PW X x (rdT X.K cA W' fun s h => tstR (m s h))
section
variable {X : Cx} {W' : WX} {c : SC} {cA : Str → Addr} {G : Gam} {k : Nat} {x y z : Expr} {m m2 m3 : Sto → Hq → R W} {pos : Pos}
theorem Snd.pl (p : PE X x (rdE X.K cA W' m)) (h : plT x = true) : Snd X W' cA m x := ⟨p, pt_rd p h, fun op vs q e => by subst e; cases h⟩
theorem s_cst {w : W} {q : Const} {j : Nat} (h : cstB w q = true) : Snd X W' cA (fun _ h => .ok w h) (.Constant q j pos) := by
  refine Snd.pl ?_ rfl
  unfold cstB at h
  split at h
  · cases of_decide_eq_true h
    exact PE.weak pe_int fun σ H Q ⟨s, h, ρ, rep, rst, o⟩ => o.val rep (.int _)
  · cases of_decide_eq_true h
    exact PE.weak pe_str fun σ H Q ⟨s, h, ρ, rep, rst, o⟩ => o.val rep (.str _)
  · cases eq_of_beq h
    exact PE.weak pe_bl fun σ H Q ⟨s, h, ρ, rep, rst, o⟩ => o.val rep (.bl _)
  · exact PE.weak pe_non fun σ H Q ⟨s, h, ρ, rep, rst, o⟩ => o.val rep .non
  · cases h
theorem s_var (g : Gd X W' c cA G k) {i : Nat} {n : Str} (h : (nameAt c i n && (visB c.sc n && plN n)) = true) : Snd X W' cA (evE G (.var i)) (.Name n pos) := by
  simp only [Bool.and_eq_true] at h
  obtain ⟨h1, h2, h3⟩ := h
  obtain ⟨p1, p2, p3⟩ := plN_of h3
  refine Snd.pl ?_ rfl
  refine PE.weak (pe_var (g.ix h1) (g.vis h2) p1 p2) fun σ H Q ⟨s, h, ρ, rep, rst, o⟩ => ?_
  unfold evE at o
  split at o
  · rename_i w e
    obtain ⟨v, e1, rw⟩ := rst.2 i w e
    exact ⟨v, e1, o.val rep rw⟩
  · exact o.elim
theorem s_glb (g : Gd X W' c cA G k) {a : Str} (h : gname c a x = true) : Snd X W' cA (evE G (.glb a)) x := by
  unfold gname at h
  split at h
  · rename_i n p
    simp only [Bool.and_eq_true] at h
    obtain ⟨h1, h2, h3⟩ := h
    cases of_decide_eq_true h1
    obtain ⟨p1, p2, p3⟩ := plN_of h3
    refine Snd.pl ⟨fun pins s0 σ H Q I ⟨s, h, ρ, rep, rst, o⟩ => ?_⟩ rfl
    unfold evE at o
    obtain ⟨a, e, o1⟩ := o.opt
    obtain ⟨v, u, e1, r, rr⟩ := g.ok.con _ _ e
    exact (pe_glob (pos := p) (g.gl h2) e1 r p1).run pins s0 σ H Q I (o1 H ρ rep Ext.refl v (rr H ρ))
  · cases h
variable {es : Es} {xs : List Expr}
theorem evEs_len : ∀ (es : Es) (s : Sto) (h : Hq) (ws : List W) (h' : Hq), evEs G es s h = .ok ws h' → ws.length = es.len
  | .nil, s, h, ws, h', e => by unfold evEs at e; cases e; rfl
  | .cons a es, s, h, ws, h', e => by
    unfold evEs at e
    cases e1 : evE G a s h with
    | ok w h1 =>
      rw [e1] at e
      simp only [R.bind] at e
      cases e2 : evEs G es s h1 with
      | ok ws2 h2 =>
        rw [e2] at e
        simp only [R.bind] at e
        cases e
        have q := evEs_len es s h1 _ _ e2
        simp [q, Es.len]
      | exc c h => rw [e2] at e; cases e
      | bad => rw [e2] at e; cases e
    | exc c h => rw [e1] at e; cases e
    | bad => rw [e1] at e; cases e
theorem s_tup {kk : Nat} (p : PA X xs (rdA X.K cA W' (evEs G es))) (h : decide (es.len ≤ 1000) = true) : Snd X W' cA (evE G (.tup es)) (.Tuple xs kk pos) := by
  refine Snd.pl (PE.weak (pe_tup p) fun σ H Q ⟨s, h, ρ, rep, rst, o⟩ => ?_) rfl
  unfold evE at o
  refine ⟨s, h, ρ, rep, rst, o.bind.imp fun ws h1 H1 ρ1 e rep1 ext o1 vs rv => ⟨?_, fun q hq => new_tup rep1 rv hq o1⟩⟩
  rw [← rv.length, evEs_len _ _ _ _ _ e, sizeLine_eq]
  have := of_decide_eq_true ‹decide (es.len ≤ 1000) = true›
  omega
theorem s_lst (p : PA X xs (rdA X.K cA W' (evEs G es))) (h : decide (es.len ≤ 1000) = true) : Snd X W' cA (evE G (.lst es)) (.List xs pos) := by
  refine Snd.pl (PE.weak (pe_lst p) fun σ H Q ⟨s, h, ρ, rep, rst, o⟩ => ?_) rfl
  unfold evE at o
  refine ⟨s, h, ρ, rep, rst, o.bind.imp fun ws h1 H1 ρ1 e rep1 ext o1 vs rv => ⟨?_, fun q hq => new_lst rep1 rv hq o1⟩⟩
  rw [← rv.length, evEs_len _ _ _ _ _ e, sizeLine_eq]
  have := of_decide_eq_true ‹decide (es.len ≤ 1000) = true›
  omega
theorem s_mlst (p : PA X xs (rdA X.K cA W' (evEs G es))) (h : decide (es.len ≤ 1000) = true) : Snd X W' cA (evE G (.mlst es)) (.List xs pos) := by
  refine Snd.pl (PE.weak (pe_lst p) fun σ H Q ⟨s, h, ρ, rep, rst, o⟩ => ?_) rfl
  unfold evE at o
  refine ⟨s, h, ρ, rep, rst, o.bind.imp fun ws h1 H1 ρ1 e rep1 ext o1 vs rv => ⟨?_, fun q hq => new_mlst rep1 rv hq o1⟩⟩
  rw [← rv.length, evEs_len _ _ _ _ _ e, sizeLine_eq]
  have := of_decide_eq_true ‹decide (es.len ≤ 1000) = true›
  omega
theorem s_frz {a : E} (p : PE X x (rdE X.K cA W' (evE G a))) (h : plT x = true) : Snd X W' cA (evE G (.frz a)) x := by
  refine Snd.pl (PE.weak p fun σ H Q ⟨s, h, ρ, rep, rst, o⟩ => ?_) h
  unfold evE at o
  refine rd1 rep rst o fun w h1 H1 ρ1 v rep1 ext st rw o1 => ?_
  split at o1
  · rename_i i
    cases rw with
    | @ref _ ob _ e hv =>
      split at o1
      · rename_i ws eo
        obtain ⟨a, ea⟩ := rep1.live i _ eo (fun z => nomatch z)
        rw [e] at ea; cases ea
        cases hv a rfl
        obtain ⟨vs, q1, q2⟩ := rep1.obj i _ a eo e
        refine o1 H1 _ rep1.free Ext.free _ (.lst q1 (fun j hj => ?_) (q2.mono Ext.free rep1.tupOk))
        by_cases z : i = j
        · subst z
          have := (List.getElem?_eq_some_iff.mp e).1
          rw [List.getElem?_set_self this] at hj; cases hj
        · rw [List.getElem?_set_ne z] at hj
          exact z (rep1.inj i j a e hj)
      · rename_i ws eo
        obtain ⟨a, ea⟩ := rep1.live i _ eo (fun z => nomatch z)
        rw [e] at ea; cases ea
        cases hv a rfl
        obtain ⟨vs, q1, q2⟩ := rep1.obj i _ a eo e
        refine o1 H1 _ rep1.free Ext.free _ (.dct q1 (fun j hj => ?_) (q2.mono Ext.free rep1.tupOk))
        by_cases z : i = j
        · subst z
          have := (List.getElem?_eq_some_iff.mp e).1
          rw [List.getElem?_set_self this] at hj; cases hj
        · rw [List.getElem?_set_ne z] at hj
          exact z (rep1.inj i j a e hj)
      · exact o1.elim
  · exact o1.elim
variable {a b d : E}
theorem bop_is {o : Bop} {op : Operator} (h : o.is op = true) : op = o.op := by cases o <;> cases op <;> first | rfl | cases h
theorem cop_is {o : Cop} {op : CmpOp} (h : o.is op = true) : op = o.op := by cases o <;> cases op <;> first | rfl | cases h
theorem s_bin {o : Bop} {op : Operator} (h : o.is op = true) (p : PE X x (rdE X.K cA W' (evE G a))) (q : PE X y (rdE X.K cA W' (evE G b))) : Snd X W' cA (evE G (.bin o a b)) (.BinOp x op y pos) := by
  cases bop_is h
  refine Snd.pl (PE.weak (pe_op (op_binW (cA := cA) o) p q) fun σ H Q ⟨s, h, ρ, rep, rst, oo⟩ => ?_) rfl
  unfold evE at oo
  refine rd2 rep rst oo fun x y h1 H1 ρ1 v u rep1 ext st rx ry o1 => ?_
  obtain ⟨z, e, o2⟩ := o1.opt
  exact ⟨h1, ρ1, x, y, z, rep1, rx, ry, e, o2⟩
theorem s_addm (p : PE X x (rdE X.K cA W' (evE G a))) (q : PE X y (rdE X.K cA W' (evE G b))) : Snd X W' cA (evE G (.addm a b)) (.BinOp x .Add y pos) := by
  refine Snd.pl (PE.weak (pe_op op_cat p q) fun σ H Q ⟨s, h, ρ, rep, rst, oo⟩ => ?_) rfl
  unfold evE at oo
  refine rd2 rep rst oo fun x y h1 H1 ρ1 v u rep1 ext st rx ry o1 => ?_
  split at o1
  · rename_i as bs ea eb
    split at o1
    · rename_i hl
      obtain ⟨p, vs, rfl, hp, rs⟩ := vw_lst ea rep1 rx
      obtain ⟨p', vs', rfl, hp', rs'⟩ := vw_lst eb rep1 ry
      exact ⟨p, p', vs, vs', rfl, rfl, hp, hp', by rw [sizeLine_line, ← rs.length, ← rs'.length]; exact hl, fun p'' hp'' => new_mlst rep1 (rs.append rs') hp'' o1⟩
    · exact o1.elim
  · exact o1.elim
theorem s_neg (p : PE X x (rdE X.K cA W' (evE G a))) : Snd X W' cA (evE G (.neg a)) (.UnaryOp .USub x pos) := by
  refine Snd.pl (PE.weak (pe_un un_neg p) fun σ H Q ⟨s, h, ρ, rep, rst, oo⟩ => ?_) rfl
  unfold evE at oo
  refine rd1 rep rst oo fun x h1 H1 ρ1 v rep1 ext st rx o1 => ?_
  cases x with
  | int i => cases rx; exact ⟨i, rfl, o1.val rep1 (.int _)⟩
  | _ => exact o1.elim
theorem cmp_rd {o : Cop} {σ : L2.St} {H : Hp} {Q : VK} {s : Sto} {h : Hq} {ρ : Rho} (rep : Rep X.K cA ρ h H) (rst : RSt X.K H ρ s σ) (oo : OutE X.K cA W' σ H ρ (evE G (.cmp o a b) s h) fun w _ H' ρ' => ∀ v, RW X.K H' ρ' w v → Q v H') :
    tOp (rCmp X.K cA o) (rdE X.K cA W' (evE G a)) (rdE X.K cA W' (evE G b)) σ H Q := by
  unfold evE at oo
  refine rd2 rep rst oo fun x y h1 H1 ρ1 v u rep1 ext st rx ry o1 => ?_
  obtain ⟨z, e, o2⟩ := o1.bind.opt
  exact ⟨h1, ρ1, x, y, z, rep1, rx, ry, e, (o2 H1 ρ1 rep1 Ext.refl).val rep1 (.bl _)⟩
theorem tst_imp {σ : L2.St} {H : Hp} {ρ : Rho} {r : R W} {Q : Bool → Hp → Prop} (o : OutE X.K cA W' σ H ρ (tstR r) fun b _ H' _ => Q b H') :
    OutE X.K cA W' σ H ρ r fun w _ H' ρ' => ∀ v, RW X.K H' ρ' w v → ∃ k, v = .bl k ∧ Q k H' := by
  unfold tstR at o
  refine o.bind.imp fun w h1 H1 ρ1 _ rep1 ext o1 v rw => ?_
  cases w with
  | bl b => cases rw; exact ⟨b, rfl, o1.now rep1⟩
  | _ => exact o1.elim
theorem s_cmp (g : Gd X W' c cA G k) {o : Cop} {op : CmpOp} (h : o.is op = true) (hn : nset y = true) (p : PE X x (rdE X.K cA W' (evE G a))) (q : PE X y (rdE X.K cA W' (evE G b))) : Snd X W' cA (evE G (.cmp o a b)) (.Compare x [op] [y] pos) := by
  cases cop_is h
  refine ⟨PE.weak (pe_cmpR (op_cmpW (cA := cA) g.uni o) p q (behind_of hn)) fun σ H Q ⟨s, h, ρ, rep, rst, oo⟩ => cmp_rd rep rst oo, PT.weak (pt_cmpR (op_cmpW (cA := cA) g.uni o) p q (behind_of hn)) fun σ H Q ⟨s, h, ρ, rep, rst, oo⟩ => cmp_rd rep rst (tst_imp oo), fun _ _ _ e => nomatch e⟩
theorem chain_rd {o o2 : Cop} {σ : L2.St} {H : Hp} {Q : VK} {s : Sto} {h : Hq} {ρ : Rho} (rep : Rep X.K cA ρ h H) (rst : RSt X.K H ρ s σ) (oo : OutE X.K cA W' σ H ρ (evE G (.chain o o2 a b d) s h) fun w _ H' ρ' => ∀ v, RW X.K H' ρ' w v → Q v H') :
    tChain (rCmp X.K cA o) (rCmp X.K cA o2) (rdE X.K cA W' (evE G a)) (rdE X.K cA W' (evE G b)) (rdE X.K cA W' (evE G d)) σ H Q := by
  unfold evE at oo
  refine rd2 rep rst oo fun x y h1 H1 ρ1 v u rep1 ext st rx ry o1 => ?_
  obtain ⟨z, e, o2⟩ := o1.bind.opt
  have o3 := o2 H1 ρ1 rep1 Ext.refl
  refine ⟨h1, ρ1, x, y, z, rep1, rx, ry, e, z, rfl, ?_⟩
  cases z with
  | true =>
    rw [if_pos rfl]
    refine rd1 rep1 st o3 fun w h2 H2 ρ2 t rep2 ext2 st2 rt o4 => ?_
    obtain ⟨z, e, o5⟩ := o4.bind.opt
    exact ⟨h2, ρ2, y, w, z, rep2, ry.mono ext2 rep1.tupOk, rt, e, (o5 H2 ρ2 rep2 Ext.refl).val rep2 (.bl _)⟩
  | false =>
    rw [if_neg (by decide)]
    exact o3.val rep1 (.bl _)
theorem s_chain (g : Gd X W' c cA G k) {o o2 : Cop} {op op2 : CmpOp} (h : o.is op = true) (h2 : o2.is op2 = true) (hn : nset z = true) (p : PE X x (rdE X.K cA W' (evE G a))) (q : PE X y (rdE X.K cA W' (evE G b))) (r : PE X z (rdE X.K cA W' (evE G d))) :
    Snd X W' cA (evE G (.chain o o2 a b d)) (.Compare x [op, op2] [y, z] pos) := by
  cases cop_is h
  cases cop_is h2
  have hm : lastMarks [o.op, o2.op] [y, z] = false := by
    show behindInMarks o2.op z = false
    exact behind_of hn
  refine ⟨PE.weak (pe_chain (op_cmpW (cA := cA) g.uni o) (op_cmpW (cA := cA) g.uni o2) p q r hm) fun σ H Q ⟨s, h, ρ, rep, rst, oo⟩ => chain_rd rep rst oo, PT.weak (pt_chain (op_cmpW (cA := cA) g.uni o) (op_cmpW (cA := cA) g.uni o2) p q r hm) fun σ H Q ⟨s, h, ρ, rep, rst, oo⟩ => chain_rd rep rst (tst_imp oo), fun _ _ _ e => nomatch e⟩
end
end MP
set_option Elab.async false
set_option linter.all false
set_option maxRecDepth 100000
set_option maxHeartbeats 4000000
/-! MP13: the expressions' rules: tests, items, calls. -/
namespace MP
open PySem PySem.Spec PyProof.Rows L2
section
variable {X : Cx} {W' : WX} {c : SC} {cA : Str → Addr} {G : Gam} {k : Nat} {x y z : Expr} {pos : Pos} {a b d : E} {es : Es} {xs : List Expr}
/-! ### and, or, not, if else -/
theorem OutE.exc_or {α : Type} {K : PySem.W.Frag} {σ : L2.St} {H : Hp} {ρ : Rho} {r : R α} {q : α → Hq → Hp → Rho → Prop} (o : OutE K cA W' σ H ρ r q) : OutE K cA W' σ H ρ r q := o
theorem tstR_bl {r : R Bool} : tstR (r.bind fun c h => .ok (.bl c) h) = r := by cases r <;> rfl
theorem and_tst {s : Sto} {h : Hq} : tstR (evE G (.and_ a b) s h) = (tstR (evE G a s h)).bind fun c h => match c with
    | true => tstR (evE G b s h)
    | false => .ok false h := by
  show tstR (evE G (.and_ a b) s h) = _
  rw [show evE G (.and_ a b) s h = ((tstR (evE G a s h)).bind fun c h => match c with
    | true => (tstR (evE G b s h)).bind fun c h => .ok (.bl c) h
    | false => .ok (.bl false) h) by rw [evE] <;> rfl]
  cases tstR (evE G a s h) with
  | ok c h => cases c with
    | true => exact tstR_bl
    | false => rfl
  | exc c h => rfl
  | bad => rfl
theorem or_tst {s : Sto} {h : Hq} : tstR (evE G (.or_ a b) s h) = (tstR (evE G a s h)).bind fun c h => match c with
    | true => .ok true h
    | false => tstR (evE G b s h) := by
  rw [show evE G (.or_ a b) s h = ((tstR (evE G a s h)).bind fun c h => match c with
    | true => .ok (.bl true) h
    | false => (tstR (evE G b s h)).bind fun c h => .ok (.bl c) h) by rw [evE] <;> rfl]
  cases tstR (evE G a s h) with
  | ok c h => cases c with
    | true => rfl
    | false => exact tstR_bl
  | exc c h => rfl
  | bad => rfl
theorem tst_bl {r : R Bool} {σ : L2.St} {H : Hp} {ρ : Rho} {K : PySem.W.Frag} {Q : VK} (o : OutE K cA W' σ H ρ (r.bind fun c h => .ok (.bl c) h) fun w _ H' ρ' => ∀ v, RW K H' ρ' w v → Q v H') :
    OutE K cA W' σ H ρ r fun b _ H' _ => Q (.bl b) H' := o.bind.imp fun b h1 H1 ρ1 _ rep1 ext o1 => o1.val rep1 (.bl b)
/-- a test's value, by the value's reading -/
theorem rdE_bl {m : Sto → Hq → R W} {σ : L2.St} {H : Hp} {ρ : Rho} {s : Sto} {h : Hq} {β : Type} {f : Bool → Hq → R β} {q : β → Hq → Hp → Rho → Prop} {Qk : V → Hp → Prop} (rep : Rep X.K cA ρ h H) (rst : RSt X.K H ρ s σ) (o : OutE X.K cA W' σ H ρ ((tstR (m s h)).bind f) q)
    (hk : ∀ b h1 H1 ρ1, Rep X.K cA ρ1 h1 H1 → Ext H ρ H1 ρ1 → RSt X.K H1 ρ1 s σ → OutE X.K cA W' σ H1 ρ1 (f b h1) q → Qk (.bl b) H1) : rdE X.K cA W' m σ H Qk :=
  ⟨s, h, ρ, rep, rst, (tst_imp (Q := fun b H1 => Qk (.bl b) H1) (o.bind.imp fun w h1 H1 ρ1 _ rep1 e o1 => hk w h1 H1 ρ1 rep1 e (rst.mono e rep.tupOk) o1)).imp fun w h1 H1 ρ1 _ _ _ o1 v rv => by obtain ⟨k, rfl, q⟩ := o1 v rv; exact q⟩
theorem tail_pe {op : BoolOp} {vs : List Expr} {m : Sto → Hq → R W} (h : Snd X W' cA m (.BoolOp op vs pos)) : PE X (.BoolOp op vs pos) (rdE X.K cA W' m) ∧ PW X (.BoolOp op vs pos) (rdT X.K cA W' fun s h => tstR (m s h)) := ⟨h.pe, h.pw _ _ _ rfl⟩
theorem one_and {m : Sto → Hq → R W} (h : Snd X W' cA m x) : PE X (.BoolOp .And [x] pos) (rdE X.K cA W' m) ∧ PW X (.BoolOp .And [x] pos) (rdT X.K cA W' fun s h => tstR (m s h)) := ⟨pe_one h.pe, pw_and1 h.pt⟩
theorem one_or {m : Sto → Hq → R W} (h : Snd X W' cA m x) : PE X (.BoolOp .Or [x] pos) (rdE X.K cA W' m) ∧ PW X (.BoolOp .Or [x] pos) (rdT X.K cA W' fun s h => tstR (m s h)) := ⟨pe_one h.pe, pw_or1 h.pt⟩
theorem s_and (p : Snd X W' cA (evE G a) x) (q : PE X (.BoolOp .And (y :: xs) pos) (rdE X.K cA W' (evE G b)) ∧ PW X (.BoolOp .And (y :: xs) pos) (rdT X.K cA W' fun s h => tstR (evE G b s h))) :
    Snd X W' cA (evE G (.and_ a b)) (.BoolOp .And (x :: y :: xs) pos) := by
  have pw : PW X (.BoolOp .And (x :: y :: xs) pos) (rdT X.K cA W' fun s h => tstR (evE G (.and_ a b) s h)) := PW.weak (pw_and p.pt q.2) fun σ H Q ⟨s, h, ρ, rep, rst, o⟩ => by
    simp only [and_tst] at o
    refine rd1T rep rst o fun b h1 H1 ρ1 rep1 ext st o1 => ?_
    cases b with
    | true => rw [if_pos rfl]; exact ⟨s, h1, ρ1, rep1, st, o1⟩
    | false => rw [if_neg (by decide)]; exact o1.now rep1
  refine ⟨PE.weak (pe_and p.pe q.1) fun σ H Q ⟨s, h, ρ, rep, rst, o⟩ => ?_, pw.pt, fun op vs pp e => by cases e; exact pw⟩
  unfold evE at o
  refine rdE_bl rep rst o fun b h1 H1 ρ1 rep1 ext st o1 => ?_
  refine ⟨b, rfl, ?_⟩
  cases b with
  | true =>
    rw [if_pos rfl]
    refine ⟨s, h1, ρ1, rep1, st, ?_⟩
    exact (tst_imp (Q := fun b H1 => Q (.bl b) H1) (tst_bl o1)).imp fun w h1 H1 ρ1 _ _ _ o1 v rv => by obtain ⟨k, rfl, q⟩ := o1 v rv; exact q
  | false => rw [if_neg (by decide)]; exact o1.val rep1 (.bl _)
theorem s_or (p : Snd X W' cA (evE G a) x) (q : PE X (.BoolOp .Or (y :: xs) pos) (rdE X.K cA W' (evE G b)) ∧ PW X (.BoolOp .Or (y :: xs) pos) (rdT X.K cA W' fun s h => tstR (evE G b s h))) :
    Snd X W' cA (evE G (.or_ a b)) (.BoolOp .Or (x :: y :: xs) pos) := by
  have pw : PW X (.BoolOp .Or (x :: y :: xs) pos) (rdT X.K cA W' fun s h => tstR (evE G (.or_ a b) s h)) := PW.weak (pw_or p.pt q.2) fun σ H Q ⟨s, h, ρ, rep, rst, o⟩ => by
    simp only [or_tst] at o
    refine rd1T rep rst o fun b h1 H1 ρ1 rep1 ext st o1 => ?_
    cases b with
    | true => rw [if_pos rfl]; exact o1.now rep1
    | false => rw [if_neg (by decide)]; exact ⟨s, h1, ρ1, rep1, st, o1⟩
  refine ⟨PE.weak (pe_or p.pe q.1) fun σ H Q ⟨s, h, ρ, rep, rst, o⟩ => ?_, pw.pt, fun op vs pp e => by cases e; exact pw⟩
  unfold evE at o
  refine rdE_bl rep rst o fun b h1 H1 ρ1 rep1 ext st o1 => ?_
  refine ⟨b, rfl, ?_⟩
  cases b with
  | true => rw [if_pos rfl]; exact o1.val rep1 (.bl _)
  | false =>
    rw [if_neg (by decide)]
    refine ⟨s, h1, ρ1, rep1, st, ?_⟩
    exact (tst_imp (Q := fun b H1 => Q (.bl b) H1) (tst_bl o1)).imp fun w h1 H1 ρ1 _ _ _ o1 v rv => by obtain ⟨k, rfl, q⟩ := o1 v rv; exact q
theorem s_not (p : Snd X W' cA (evE G a) x) : Snd X W' cA (evE G (.not_ a)) (.UnaryOp .Not x pos) := by
  refine ⟨PE.weak (pe_not p.pe) fun σ H Q ⟨s, h, ρ, rep, rst, o⟩ => ?_, PT.weak (pt_not p.pt) fun σ H Q ⟨s, h, ρ, rep, rst, o⟩ => ?_, fun _ _ _ e => nomatch e⟩
  · unfold evE at o
    exact rdE_bl rep rst o fun b h1 H1 ρ1 rep1 ext st o1 => ⟨b, rfl, o1.val rep1 (.bl _)⟩
  · unfold evE at o
    have e : tstR ((tstR (evE G a s h)).bind fun c h => .ok (.bl (!c)) h) = (tstR (evE G a s h)).bind fun c h => .ok (!c) h := by cases tstR (evE G a s h) <;> rfl
    dsimp only at o
    rw [e] at o
    exact rd1T rep rst o fun b h1 H1 ρ1 rep1 ext st o1 => o1.now rep1
theorem pt_ifExp {c : Expr} {tA ta tb : TT} (hc : PT X c tA) (ha : PT X x ta) (hb : PT X y tb) : PT X (.IfExp c x y pos) (fun σ H Q => tA σ H fun c H1 => if c = true then ta σ H1 Q else tb σ H1 Q) := by
  refine ⟨fun pins s σ H Q I h => ?_⟩
  show wpAny _ _ (do if ← isTrue c X.env (eval c X.env) then isTrue x X.env (eval x X.env) else isTrue y X.env (eval y X.env)) _ _ _
  refine wpAny_bind (thn (hc.run pins s σ H _ I h) fun d s1 ⟨H1, I1, q1⟩ => ?_)
  cases d with
  | true => exact ha.run pins s1 σ H1 Q I1 q1
  | false => exact hb.run pins s1 σ H1 Q I1 q1
theorem ite_tst {s : Sto} {h : Hq} : tstR (evE G (.ite d a b) s h) = (tstR (evE G d s h)).bind fun k h => match k with
    | true => tstR (evE G a s h)
    | false => tstR (evE G b s h) := by
  rw [evE]
  cases tstR (evE G d s h) with
  | ok k h => cases k <;> rfl
  | _ => rfl
theorem s_ite (pd : Snd X W' cA (evE G d) z) (p : Snd X W' cA (evE G a) x) (q : Snd X W' cA (evE G b) y) : Snd X W' cA (evE G (.ite d a b)) (.IfExp z x y pos) := by
  refine ⟨PE.weak (pe_ifExp pd.pt p.pe q.pe) fun σ H Q ⟨s, h, ρ, rep, rst, o⟩ => ?_, PT.weak (pt_ifExp pd.pt p.pt q.pt) fun σ H Q ⟨s, h, ρ, rep, rst, o⟩ => ?_, fun _ _ _ e => nomatch e⟩
  · unfold evE at o
    refine rd1T rep rst o fun b h1 H1 ρ1 rep1 ext st o1 => ?_
    cases b with
    | true => rw [if_pos rfl]; exact ⟨s, h1, ρ1, rep1, st, o1⟩
    | false => rw [if_neg (by decide)]; exact ⟨s, h1, ρ1, rep1, st, o1⟩
  · simp only [ite_tst] at o
    refine rd1T rep rst o fun b h1 H1 ρ1 rep1 ext st o1 => ?_
    cases b with
    | true => rw [if_pos rfl]; exact ⟨s, h1, ρ1, rep1, st, o1⟩
    | false => rw [if_neg (by decide)]; exact ⟨s, h1, ρ1, rep1, st, o1⟩

/-! ### items -/
theorem s_idx (g : Gd X W' c cA G k) (h : nsl y = true) (p : PE X x (rdE X.K cA W' (evE G a))) (q : PE X y (rdE X.K cA W' (evE G b))) : Snd X W' cA (evE G (.idx a b)) (.Subscript x y pos) := by
  refine Snd.pl (PE.weak (pe_ix (ix_W (cA := cA) g.uni1) p q (plainIx h)) fun σ H Q ⟨s, h, ρ, rep, rst, oo⟩ => ?_) rfl
  unfold evE at oo
  refine rd2 rep rst oo fun x y h1 H1 ρ1 v u rep1 ext st rx ry o1 => ?_
  obtain ⟨z, e, o2⟩ := o1.opt
  exact ⟨h1, ρ1, x, y, z, rep1, rx, ry, e, fun v rv => o2 H1 ρ1 rep1 Ext.refl v rv⟩
theorem s_slc {l u : Option Expr} {lo hi : Eo} {p2 : Pos} (p : PE X x (rdE X.K cA W' (evE G a))) (ql : PO X l (rdO X.K cA W' (evEo G lo))) (qu : PO X u (rdO X.K cA W' (evEo G hi))) :
    Snd X W' cA (evE G (.slc a lo hi)) (.Subscript x (.Slice l u none p2) pos) := by
  refine Snd.pl (PE.weak (pe_slice (sl_W (cA := cA)) p ql qu) fun σ H Q ⟨s, h, ρ, rep, rst, oo⟩ => ?_) rfl
  unfold evE at oo
  refine rd1 rep rst oo fun x h1 H1 ρ1 v rep1 ext st rx o1 => ?_
  refine rd1O rep1 st o1 fun l h2 H2 ρ2 rep2 ext2 st2 o2 => ?_
  refine rd1O rep2 st2 o2 fun u h3 H3 ρ3 rep3 ext3 st3 o3 => ?_
  obtain ⟨z, e, o4⟩ := o3.opt
  exact ⟨h3, ρ3, x, z, rep3, (rx.mono ext2 rep1.tupOk).mono ext3 rep2.tupOk, e, o4⟩
theorem po_no : PO X none (rdO X.K cA W' (evEo G .no)) := ⟨fun pins s0 σ H Q I ⟨s, h, ρ, rep, rst, o⟩ => by
  unfold evEo at o
  exact po_none.run pins s0 σ H Q I (o.now rep)⟩
theorem po_yes (p : PE X x (rdE X.K cA W' (evE G a))) : PO X (some x) (rdO X.K cA W' (evEo G (.yes a))) := ⟨fun pins s0 σ H Q I ⟨s, h, ρ, rep, rst, o⟩ => by
  refine (po_some p).run pins s0 σ H Q I ?_
  unfold evEo at o
  refine rd1 rep rst o fun w h1 H1 ρ1 v rep1 ext st rw o1 => ?_
  cases w with
  | int i => cases rw; exact ⟨i, rfl, o1.now rep1⟩
  | _ => exact o1.elim⟩

/-! ### arguments -/
theorem pa_no : PA X [] (rdA X.K cA W' (evEs G .nil)) := PA.weak pa_nil fun σ H Q ⟨s, h, ρ, rep, rst, o⟩ => by
  unfold evEs at o
  exact o.now rep [] .nil
theorem pa_c (h : nst x = true) (p : PE X x (rdE X.K cA W' (evE G a))) (q : PA X xs (rdA X.K cA W' (evEs G es))) : PA X (x :: xs) (rdA X.K cA W' (evEs G (.cons a es))) :=
  PA.weak (pa_cons p q (star_cons h)) fun σ H Q ⟨s, h, ρ, rep, rst, o⟩ => by
    unfold evEs at o
    refine rd1 rep rst o fun w h1 H1 ρ1 v rep1 ext st rw o1 => ?_
    exact rd1A rep1 st o1 fun ws h2 H2 ρ2 vs rep2 ext2 st2 rws o2 => o2.now rep2 _ (.cons (rw.mono ext2 rep1.tupOk) rws)
theorem okEs_nstL : ∀ {es : Es} {xs : List Expr}, okEs c es xs = true → nstL xs = true
  | .nil, [], _ => rfl
  | .nil, _ :: _, h => by unfold okEs at h; cases h
  | .cons e es, [], h => by unfold okEs at h; cases h
  | .cons e es, x :: xs, h => by
    unfold okEs at h
    simp only [Bool.and_eq_true] at h
    unfold nstL
    rw [h.1, okEs_nstL h.2.2] <;> rfl

/-! ### calls -/
theorem call_rd {K : PySem.W.Frag} {σ : L2.St} {H : Hp} {ρ : Rho} {r : R W} {Q : VK} (o : OutE K cA W' σ H ρ r fun w _ H' ρ' => ∀ v, RW K H' ρ' w v → Q v H') : OutC K cA H ρ Q (WE W' σ) r := by
  cases r with
  | ok w h => exact o
  | exc c h => exact o
  | bad => exact o
theorem OutE.ne_bad {α : Type} {K : PySem.W.Frag} {σ : L2.St} {H : Hp} {ρ : Rho} {r : R α} {q : α → Hq → Hp → Rho → Prop} (o : OutE K cA W' σ H ρ r q) : r ≠ .bad := by intro e; subst e; exact o
/-- the evaluator's way to a call: it is never bad, so it reaches it, or there is an exception ahead -/
theorem s_call (g : Gd X W' c cA G k) {f : Str} {p1 : Pos} {zs : List Expr} (hg : glB c.sc f = true) (hp : plN f = true) (hn : nstL (z :: zs) = true) (hf : f ∈ c.fns) (p : PA X (z :: zs) (rdA X.K cA W' (evEs G es))) :
    Snd X W' cA (evE G (.call f es)) (.Call (.Name f p1) (z :: zs) [] pos) := by
  refine Snd.pl ⟨fun pins s0 σ H Q I ⟨s, h, ρ, rep, rst, o⟩ => ?_⟩ rfl
  obtain ⟨n1, n2, n3⟩ := plN_of hp
  have hn' := hn
  unfold nstL at hn
  rw [Bool.and_eq_true] at hn
  unfold evE at o
  obtain ⟨fa, fd, ps, e1, e2, e3, e4⟩ := g.ok.fn f hf
  refine (pe_callSD (pos := pos) (p := p1) e4 g.room (g.gl hg) e1 e2 e3 .nil (passAt g.tk) p n1 (star_cons hn.1) (star_any hn.2)).run pins s0 σ H Q I ?_
  refine rd1A rep rst o fun ws h1 H1 ρ1 vs rep1 ext st rws o1 => ?_
  exact ⟨ws, h1, ρ1, rep1, by rw [List.append_nil]; exact rws, call_rd o1⟩
end
end MP
set_option Elab.async false
set_option linter.all false
set_option maxRecDepth 100000
set_option maxHeartbeats 4000000
/-! MP14: built-in functions and methods, dict displays; targets; what is walked. -/
namespace MP
open PySem PySem.Spec PyProof.Rows L2
section
variable {X : Cx} {W' : WX} {c : SC} {cA : Str → Addr} {G : Gam} {k : Nat} {x y z : Expr} {pos p1 : Pos} {a b d : E} {es : Es} {xs : List Expr}
theorem R.bind_assoc {α β γ : Type} (r : R α) (f : α → Hq → R β) (g : β → Hq → R γ) : (r.bind f).bind g = r.bind fun a h => (f a h).bind g := by cases r <;> rfl
theorem nst1 (h : nst x = true) : starEach [x] X.env = (false, eval x X.env) :: starEach [] X.env := star_cons h
/-- f(e, ..) with f one of the built-ins that the checker knows -/
theorem s_b1 (g : Gd X W' c cA G k) {f : Bf} (hg : glB c.sc f.nm = true) (hn : nst x = true) (p : PE X x (rdE X.K cA W' (evE G a))) : Snd X W' cA (evE G (.b1 f a)) (.Call (.Name f.nm p1) [x] [] pos) := by
  have hA : PA X [x] (tCons (rdE X.K cA W' (evE G a)) tNil) := pa_cons p pa_nil (star_cons hn)
  have hpl : (backTo pos (starEach ([] : List Expr) X.env)).any (·.1) = false := rfl
  have hC := call_b1 (cA := cA) g.calm g.uni f
  have key : PE X (.Call (.Name f.nm p1) [x] [] pos) (tCB (rB1 X.K cA f) (tCons (rdE X.K cA W' (evE G a)) tNil)) := by
    have B : ∀ {id : String}, f.val = .builtin id → X.mg f.nm = none → bootBuiltins f.nm = some (.builtin id) → f.nm ≠ "__name__" → (f.nm == ("__debug__" : Str)) = false → PE X (.Call (.Name f.nm p1) [x] [] pos) (tCB (rB1 X.K cA f) (tCons (rdE X.K cA W' (evE G a)) tNil)) :=
      fun e m b n1 n2 => pe_callB (by rw [← e]; exact hC) (g.gl hg) m b hA n1 n2 (star_cons hn) hpl
    have T : ∀ {id : String}, f.val = .type id → X.mg f.nm = none → bootBuiltins f.nm = some (.type id) → f.nm ≠ "__name__" → (f.nm == ("__debug__" : Str)) = false → PE X (.Call (.Name f.nm p1) [x] [] pos) (tCB (rB1 X.K cA f) (tCons (rdE X.K cA W' (evE G a)) tNil)) :=
      fun e m b n1 n2 => pe_callTy (by rw [← e]; exact hC) (g.gl hg) m b hA n1 n2 (star_cons hn) hpl
    have M : X.mg f.nm = none := g.ok.blt _ (by cases f <;> decide)
    cases f
    · exact B rfl M boot_len (by decide) (by decide)
    · exact T rfl M PyProof.Rows.boot_tuple (by decide) (by decide)
    · exact T rfl M PyProof.Rows.boot_list (by decide) (by decide)
    · exact T rfl M PyProof.Rows.boot_int (by decide) (by decide)
    · exact T rfl M PyProof.Rows.boot_str (by decide) (by decide)
    · exact B rfl M PyProof.Rows.boot_abs (by decide) (by decide)
    · exact B rfl M PyProof.Rows.boot_all (by decide) (by decide)
    · exact B rfl M PyProof.Rows.boot_any (by decide) (by decide)
    · exact B rfl M PyProof.Rows.boot_sorted (by decide) (by decide)
    · exact B rfl M PyProof.Rows.boot_max (by decide) (by decide)
    · exact B rfl M PyProof.Rows.boot_min (by decide) (by decide)
  refine Snd.pl (PE.weak key fun σ H Q ⟨s, h, ρ, rep, rst, oo⟩ => ?_) rfl
  unfold evE at oo
  refine rd1 rep rst oo fun w h1 H1 ρ1 v rep1 ext st rw o1 => ?_
  obtain ⟨z, e, o2⟩ := o1.opt
  exact ⟨v, h1, ρ1, w, z, rfl, rep1, rw, e, o2⟩
theorem s_b2 (g : Gd X W' c cA G k) {f : Bf2} (hg : glB c.sc f.nm = true) (hn : nst x = true) (hn2 : nst y = true) (p : PE X x (rdE X.K cA W' (evE G a))) (q : PE X y (rdE X.K cA W' (evE G b))) :
    Snd X W' cA (evE G (.b2 f a b)) (.Call (.Name f.nm p1) [x, y] [] pos) := by
  have hA : PA X [x, y] (tCons (rdE X.K cA W' (evE G a)) (tCons (rdE X.K cA W' (evE G b)) tNil)) := pa_cons p (pa_cons q pa_nil (star_cons hn2)) (star_cons hn)
  have hpl : (backTo pos (starEach [y] X.env)).any (·.1) = false := star_any (by unfold nstL nstL; rw [hn2]; rfl)
  have M : X.mg f.nm = none := g.ok.blt _ (by cases f <;> decide)
  cases f with
  | max2 =>
    refine Snd.pl (PE.weak (pe_callB (call_max2 g.calm) (g.gl hg) M PyProof.Rows.boot_max hA (by decide) (by decide) (star_cons hn) hpl) fun σ H Q ⟨s, h, ρ, rep, rst, oo⟩ => ?_) rfl
    unfold evE at oo
    refine rd2 rep rst oo fun x y h1 H1 ρ1 v u rep1 ext st rx ry o1 => ?_
    obtain ⟨z, e, o2⟩ := o1.opt
    unfold b2W at e
    split at e
    · cases e; cases rx; cases ry
      exact ⟨_, _, rfl, Fin.same o2 rep1 (.int _)⟩
    · rename_i e0; cases e0
    · cases e
  | min2 =>
    refine Snd.pl (PE.weak (pe_callB (call_min2 g.calm) (g.gl hg) M PyProof.Rows.boot_min hA (by decide) (by decide) (star_cons hn) hpl) fun σ H Q ⟨s, h, ρ, rep, rst, oo⟩ => ?_) rfl
    unfold evE at oo
    refine rd2 rep rst oo fun x y h1 H1 ρ1 v u rep1 ext st rx ry o1 => ?_
    obtain ⟨z, e, o2⟩ := o1.opt
    unfold b2W at e
    split at e
    · rename_i e0; cases e0
    · cases e; cases rx; cases ry
      exact ⟨_, _, rfl, Fin.same o2 rep1 (.int _)⟩
    · cases e
theorem s_append (g : Gd X W' c cA G k) {ap : Pos} (hb : baseOk x = true) (hl : (ap.endLine == pos.line) = true) (hn : nst y = true) (p : PE X x (rdE X.K cA W' (evE G a))) (q : PE X y (rdE X.K cA W' (evE G b))) :
    Snd X W' cA (evE G (.bm .append a (.cons b .nil))) (.Call (.Attribute x "append" ap) [y] [] pos) := by
  have hA : PA X [y] (tCons (rdE X.K cA W' (evE G b)) tNil) := pa_cons q pa_nil (star_cons hn)
  have hfew : ((backTo pos (starEach [y] X.env)).all (fun x => !x.1) && (backToKw pos (keywordEach [] X.env)).all (fun x => x.1.isSome)
      && decide (([y] : List Expr).length + ([] : List Keyword).length + (if ([] : List Keyword).isEmpty then 0 else 1) < 30)) = true := by
    rw [star_all (by unfold nstL nstL; rw [hn]; rfl)]; rfl
  refine Snd.pl (PE.weak (pe_bm PySem.F.plainAttrs_list PySem.F.slot_list_append PySem.F.type_list_append mt_append p hA (base_of hb) hfew hl (star_cons hn) rfl) fun σ H Q ⟨s, h, ρ, rep, rst, oo⟩ => ?_) rfl
  unfold evE at oo
  refine rd1 rep rst oo fun w h1 H1 ρ1 v rep1 ext st rw o1 => ?_
  split at o1
  · rename_i hk
    unfold bmOk at hk
    dsimp only at hk
    split at hk
    · rename_i i
      split at hk
      · rename_i ws eo
        cases rw with
        | @ref _ ob _ e hv =>
          obtain ⟨l, ea⟩ := rep1.live i _ eo (fun z => nomatch z)
          rw [e] at ea; cases ea
          cases hv l rfl
          obtain ⟨vs, q1, q2⟩ := rep1.obj i _ l eo e
          refine ⟨.inl ⟨rfl, vs, SqL.of q1⟩, ?_⟩
          simp only [evEs, R.bind_assoc] at o1
          refine rd1 rep1 st o1 fun w2 h2 H2 ρ2 v2 rep2 ext2 st2 rw2 o2 => ?_
          · simp only [R.bind] at o2
            unfold bmW at o2
            dsimp only at o2
            split at o2
            · rename_i xs eo2
              split at o2
              · rename_i hz
                have eι : (W.ref i) = .ref i := rfl
                have rw3 : RW X.K H2 ρ2 (.ref i) (.ref l) := (RW.ref e hv).mono ext2 rep1.tupOk
                cases rw3 with
                | @ref _ ob2 _ e2 hv2 =>
                  obtain ⟨l2, ea2⟩ := rep2.live i _ eo2 (fun z => nomatch z)
                  rw [e2] at ea2; cases ea2
                  cases hv2 l2 rfl
                  obtain ⟨us, q3, q4⟩ := rep2.obj i _ l eo2 e2
                  refine ⟨l, us, v2, rfl, rfl, q3, by rw [← q4.length, sizeLine_line]; exact hz, ?_⟩
                  have ex := Ext.write (o := .lst (us ++ [v2])) e2 (rep2.some_of e2)
                  refine OutE.val (rep2.write (ob := .lst (xs ++ [_])) e2 (fun z => by cases z) ⟨us ++ [v2], upd_same, (q4.mono ex rep2.tupOk).append (.cons (rw2.mono ex rep2.tupOk) .nil)⟩) .non (o2.ext ex)
              · exact o2.elim
            · exact o2.elim
      · cases hk
    · cases hk
  · exact o1.elim
theorem s_dget (g : Gd X W' c cA G k) {ap : Pos} (hb : baseOk x = true) (hl : (ap.endLine == pos.line) = true) (hn : nst y = true) (hn2 : nst z = true) (p : PE X x (rdE X.K cA W' (evE G a))) (q : PE X y (rdE X.K cA W' (evE G b))) (r : PE X z (rdE X.K cA W' (evE G d))) :
    Snd X W' cA (evE G (.bm .dget a (.cons b (.cons d .nil)))) (.Call (.Attribute x "get" ap) [y, z] [] pos) := by
  have nn : nstL [y, z] = true := by unfold nstL nstL nstL; rw [hn, hn2]; rfl
  have m : M2 X x "get" ap y z pos := ⟨base_of hb, by rw [star_all nn]; rfl, hl, by rw [star_cons hn, star_cons hn2]; rfl⟩
  refine Snd.pl (PE.weak (pe_dget2 g.uni1 p q r m) fun σ H Q ⟨s, h, ρ, rep, rst, oo⟩ => ?_) rfl
  unfold evE at oo
  refine rd1 rep rst oo fun w h1 H1 ρ1 v rep1 ext st rw o1 => ?_
  split at o1
  · rename_i hk
    unfold bmOk at hk
    dsimp only at hk
    split at hk
    · rename_i kvs ew
      obtain ⟨a0, kus, rfl, hp, rk⟩ := vw_dct ew rep1 rw
      refine ⟨a0, rfl, .inl ⟨kus, .inl hp⟩, ?_⟩
      simp only [evEs, R.bind_assoc] at o1
      refine rd2 rep1 st o1 fun wk wd h2 H2 ρ2 vk vd rep2 ext2 st2 rk2 rd2' o2 => ?_
      simp only [R.bind] at o2
      unfold bmW at o2
      dsimp only at o2
      split at o2
      · rename_i kvs2 key ev ek
        obtain ⟨a1, kus2, ea, hp2, rk3⟩ := vw_dct ev rep2 (rw.mono ext2 rep1.tupOk)
        cases ea
        have ekey := key_of_W ek rk2
        refine ⟨_, DGet.k hp2 |> (fun d => by rw [ekey]; exact d), ?_⟩
        have hval := rk3.val key
        have o3 := o2.fin
        cases e1 : valW kvs2 key with
        | none =>
          rw [e1] at o3
          rw [hval.2 e1]
          exact o3.same rep2 rd2'
        | some w5 =>
          rw [e1] at o3
          obtain ⟨u, q1, q2⟩ := hval.1 _ e1
          rw [q1]
          exact o3.same rep2 q2
      · exact o2.elim
    · cases hk
  · exact o1.elim
end
end MP
set_option Elab.async false
set_option linter.all false
set_option maxRecDepth 100000
set_option maxHeartbeats 4000000
/-! MP15: isinstance, dict displays; targets; what is walked. -/
namespace MP
open PySem PySem.Spec PyProof.Rows L2
section
variable {X : Cx} {W' : WX} {c : SC} {cA : Str → Addr} {G : Gam} {k : Nat} {x y z : Expr} {pos p1 p2 : Pos} {a b d : E} {es : Es} {xs : List Expr}
theorem s_isi (g : Gd X W' c cA G k) {t : Ty} (hg : glB c.sc "isinstance" = true) (hn : nst x = true) (hgt : glB c.sc t.tyn = true) (ht : t ≠ .non) (p : PE X x (rdE X.K cA W' (evE G a))) :
    Snd X W' cA (evE G (.isi a t)) (.Call (.Name "isinstance" p1) [x, .Name t.tyn p2] [] pos) := by
  have hT : PE X (.Name t.tyn p2) (tC (.ty t.nm)) := by
    have M : X.mg t.tyn = none := g.ok.blt _ (by cases t <;> first | decide | exact absurd rfl ht)
    have go : ∀ {n : String}, t.nm = n → bootBuiltins t.tyn = some (.type n) → t.tyn ≠ "__name__" → (t.tyn == ("__debug__" : Str)) = false → PE X (.Name t.tyn p2) (tC (.ty t.nm)) := fun e b n1 n2 => by
      rw [e]; exact pe_bltn (g.gl hgt) M b rfl n1 n2
    cases t
    · exact absurd rfl ht
    · exact go rfl PyProof.Rows.boot_bool (by decide) (by decide)
    · exact go rfl PyProof.Rows.boot_int (by decide) (by decide)
    · exact go rfl PyProof.Rows.boot_str (by decide) (by decide)
    · exact go rfl PyProof.Rows.boot_tuple (by decide) (by decide)
    · exact go rfl PyProof.Rows.boot_list (by decide) (by decide)
    · exact go rfl PyProof.Rows.boot_dict (by decide) (by decide)
  have hA : PA X [x, .Name t.tyn p2] (tCons (rdE X.K cA W' (evE G a)) (tCons (tC (.ty t.nm)) tNil)) := pa_cons p (pa_cons hT pa_nil rfl) (star_cons hn)
  refine Snd.pl (PE.weak (pe_callB (call_isiW (cA := cA) t) (g.gl hg) (g.ok.blt _ (by decide)) boot_isinstance hA (by decide) (by decide) (star_cons hn) rfl) fun σ H Q ⟨s, h, ρ, rep, rst, oo⟩ => ?_) rfl
  unfold evE at oo
  refine rd1 rep rst oo fun w h1 H1 ρ1 v rep1 ext st rw o1 => ?_
  split at o1
  · rename_i u eu
    exact ⟨v, h1, ρ1, w, u, rfl, rep1, rw, eu, o1.val rep1 (.bl _)⟩
  · exact o1.elim
/-- the elements, one by one -/
inductive PEs (X : Cx) (W' : WX) (cA : Str → Addr) (G : Gam) : Es → List Expr → Prop
  | nil : PEs X W' cA G .nil []
  | cons {e : E} {es : Es} {x : Expr} {xs : List Expr} : nst x = true → Snd X W' cA (evE G e) x → PEs X W' cA G es xs → PEs X W' cA G (.cons e es) (x :: xs)
theorem PEs.pa : ∀ {es : Es} {xs : List Expr}, PEs X W' cA G es xs → PA X xs (rdA X.K cA W' (evEs G es))
  | _, _, .nil => pa_no
  | _, _, .cons h p q => pa_c h p.pe (PEs.pa q)
theorem PEs.nst : ∀ {es : Es} {xs : List Expr}, PEs X W' cA G es xs → nstL xs = true
  | _, _, .nil => rfl
  | _, _, .cons h p q => by unfold nstL; rw [h, PEs.nst q]; rfl
/-! ### dict displays -/
def trsOf (X : Cx) (W' : WX) (cA : Str → Addr) (G : Gam) : List Str → Es → List (TE × TE)
  | k :: ks, .cons e es => (tC (.str k), rdE X.K cA W' (evE G e)) :: trsOf X W' cA G ks es
  | _, _ => []
theorem pps_of : ∀ {ks : List Str} {keys : List (Option Expr)} {es : Es} {vals : List Expr}, keysB ks keys = true → ks.length = es.len → PEs X W' cA G es vals → PPs X pos keys vals (trsOf X W' cA G ks es)
  | [], [], .nil, _, _, _, .nil => pps_nil
  | [], [], .cons _ _, _, _, h, _ => by simp [Es.len] at h
  | [], _ :: _, _, _, h, _, _ => by cases h
  | k :: ks, [], _, _, h, _, _ => by cases h
  | k :: ks, kk :: keys, .nil, _, _, h, _ => by simp [Es.len] at h
  | k :: ks, kk :: keys, .cons e es, _, h, hl, .cons _ p q => by
    unfold keysB at h
    split at h
    · rename_i e1; cases e1
    · rename_i e1 e2
      cases e1
      cases e2
      rw [Bool.and_eq_true] at h
      cases of_decide_eq_true h.1
      exact pps_cons pe_str p.pe (pps_of h.2 (by simpa [Es.len] using hl) q)
    · cases h
def prsOf (ks : List Str) (vs : List V) : List (V × V) := (ks.zip vs).map fun p => (.str p.1, p.2)
theorem pairs_rd {β : Type} {q : β → Hq → Hp → Rho → Prop} {s : Sto} {σ : L2.St} : ∀ {ks : List Str} {es : Es} {h : Hq} {H : Hp} {ρ : Rho} {f : List W → Hq → R β} {Qk : List (V × V) → Hp → Prop},
    ks.length = es.len → Rep X.K cA ρ h H → RSt X.K H ρ s σ → OutE X.K cA W' σ H ρ ((evEs G es s h).bind f) q →
    (∀ ws h1 H1 ρ1 vs, Rep X.K cA ρ1 h1 H1 → Ext H ρ H1 ρ1 → RWs X.K H1 ρ1 ws vs → ws.length = es.len → OutE X.K cA W' σ H1 ρ1 (f ws h1) q → Qk (prsOf ks vs) H1) → tPairs (trsOf X W' cA G ks es) σ H Qk
  | [], .nil, h, H, ρ, f, Qk, _, rep, rst, o, hk => by
    unfold evEs at o
    exact hk [] h H ρ [] rep Ext.refl .nil rfl o
  | [], .cons _ _, _, _, _, _, _, e, _, _, _, _ => by simp [Es.len] at e
  | k :: ks, .nil, _, _, _, _, _, e, _, _, _, _ => by simp [Es.len] at e
  | k :: ks, .cons e es, h, H, ρ, f, Qk, hl, rep, rst, o, hk => by
    simp only [evEs, R.bind_assoc] at o
    show rdE X.K cA W' (evE G e) σ H fun y H2 => tPairs (trsOf X W' cA G ks es) σ H2 fun ps H3 => Qk ((.str k, y) :: ps) H3
    refine rd1 rep rst o fun w h1 H1 ρ1 v rep1 ext st rw o1 => ?_
    refine pairs_rd (f := fun ws h => f (w :: ws) h) (by simpa [Es.len] using hl) rep1 st o1 fun ws h2 H2 ρ2 vs rep2 ext2 rws hlen o2 => ?_
    exact hk (w :: ws) h2 H2 ρ2 (v :: vs) rep2 (ext.trans ext2) (.cons (rw.mono ext2 rep1.tupOk) rws) (by simp [hlen, Es.len]) o2
theorem merge_nodup : ∀ (more acc : List (Key × V)), (∀ p ∈ more, ∀ q ∈ acc, q.1 ≠ p.1) → (more.map (·.1)).Nodup → mergeK acc more = acc ++ more
  | [], acc, _, _ => by unfold mergeK; simp
  | p :: more, acc, h, nd => by
    rw [List.map_cons, List.nodup_cons] at nd
    have e : putK acc p.1 p.2 = acc ++ [p] := by
      unfold putK
      rw [if_neg]
      intro z
      obtain ⟨q, hq, e⟩ := List.any_eq_true.mp z
      exact h p (by simp) q hq (by simpa using e)
    show mergeK (putK acc p.1 p.2) more = _
    rw [e, merge_nodup more (acc ++ [p]) (fun r hr q hq => ?_) nd.2]
    · simp
    · rcases List.mem_append.mp hq with hq | hq
      · exact h r (by simp [hr]) q hq
      · rw [List.mem_singleton.mp hq]
        intro z
        exact nd.1 (List.mem_map.mpr ⟨r, hr, z.symm⟩)
theorem rwk_zip {K : PySem.W.Frag} {H : Hp} {ρ : Rho} : ∀ (ks : List Key) {ws : List W} {vs : List V}, RWs K H ρ ws vs → RWk K H ρ (ks.zip ws) (ks.zip vs)
  | [], _, _, _ => by simpa using .nil
  | k :: ks, _, _, .nil => by simpa using .nil
  | k :: ks, _, _, .cons r t => by simpa using .cons r (rwk_zip ks t)
theorem keysB_some : ∀ {ks : List Str} {keys : List (Option Expr)}, keysB ks keys = true → keys.all (·.isSome) = true ∧ keys.length = ks.length
  | [], [], _ => ⟨rfl, rfl⟩
  | [], _ :: _, h => by cases h
  | _ :: _, [], h => by cases h
  | k :: ks, kk :: keys, h => by
    unfold keysB at h
    split at h
    · rename_i e1; cases e1
    · rename_i e1 e2
      cases e1
      cases e2
      rw [Bool.and_eq_true] at h
      obtain ⟨a, b⟩ := keysB_some h.2
      exact ⟨by simpa using a, by simp [b]⟩
    · cases h
theorem PEs.len : ∀ {es : Es} {xs : List Expr}, PEs X W' cA G es xs → xs.length = es.len
  | _, _, .nil => rfl
  | _, _, .cons h p q => by simp [Es.len, PEs.len q]
theorem s_dsp {ks : List Str} {keys : List (Option Expr)} (hk : keysB ks keys = true) (nd : ks.Nodup) (ne : ks ≠ []) (h15 : ks.length ≤ 15) (hl : ks.length = es.len) (p : PEs X W' cA G es xs) : Snd X W' cA (evE G (.dsp ks es)) (.Dict keys xs pos) := by
  obtain ⟨k1, k2⟩ := keysB_some hk
  refine Snd.pl (PE.weak (pe_disp2 (pps_of hk hl p) k1 (by rw [k2, hl, p.len]) (by rintro rfl; simp at k2; exact ne (List.length_eq_zero_iff.mp k2.symm)) (by rw [k2]; exact h15)) fun σ H Q ⟨s, h, ρ, rep, rst, oo⟩ => ?_) rfl
  unfold evE at oo
  refine pairs_rd hl rep rst oo fun ws h1 H1 ρ1 vs rep1 ext rws hlen o1 => ?_
  have hlv : vs.length = ks.length := by rw [← rws.length, hlen, hl]
  refine ⟨(ks.map Sum.inr).zip vs, ?_, ?_, fun q hq => ?_⟩
  · unfold prsOf
    rw [List.zip_map_left, List.map_map]
    rfl
  · simp; omega
  · have e : mergeK [] ((ks.map Sum.inr).zip vs) = (ks.map Sum.inr).zip vs := by
      rw [merge_nodup _ [] (fun _ _ _ h => by cases h)]
      · rfl
      · rw [List.map_fst_zip (by simp; omega)]
        exact List.pairwise_map.mpr (List.Pairwise.imp (fun h e => h (Sum.inr.inj e)) nd)
    rw [e]
    exact new_dct rep1 (rwk_zip _ rws) hq o1
end
end MP
set_option Elab.async false
set_option linter.all false
set_option maxRecDepth 100000
set_option maxHeartbeats 4000000
/-! MP16: targets; what is walked; comprehensions. -/
namespace MP
open PySem PySem.Spec PyProof.Rows L2
section
variable {X : Cx} {W' W2 : WX} {c : SC} {cA : Str → Addr} {G : Gam} {k : Nat} {x y z : Expr} {pos p1 p2 : Pos} {a b d : E} {es : Es} {xs : List Expr}
/-! ### targets -/
theorem wipe_get (σ : L2.St) (i : Nat) : ∀ vs : List Nat, (wipe σ vs)[i]? = if i ∈ vs ∧ i < σ.length then some none else σ[i]?
  | [] => by simp [wipe]
  | v :: vs => by
    have ih := wipe_get σ i vs
    show ((wipe σ vs).set v none)[i]? = _
    by_cases e : v = i
    · subst e
      by_cases hl : v < σ.length
      · rw [List.getElem?_set_self (by rw [wipe_length]; exact hl), if_pos ⟨by simp, hl⟩]
      · rw [List.getElem?_eq_none (by simpa [wipe_length] using hl), if_neg (fun h => hl h.2), List.getElem?_eq_none (by omega)]
    · rw [List.getElem?_set_ne e, ih]
      congr 1
      simp [Ne.symm e]
theorem wipe_mono {σ σ2 : L2.St} {us vs : List Nat} (h : ∀ i ∈ us, i ∈ vs) (e : wipe σ us = wipe σ2 us) : wipe σ vs = wipe σ2 vs := by
  have hl : σ.length = σ2.length := by rw [← wipe_length σ us, e, wipe_length]
  refine List.ext_getElem? fun i => ?_
  rw [wipe_get, wipe_get, hl]
  by_cases q : i ∈ vs ∧ i < σ2.length
  · rw [if_pos q, if_pos q]
  · rw [if_neg q, if_neg q]
    have e2 := congrArg (fun l => l[i]?) e
    simp only [wipe_get, hl] at e2
    by_cases q2 : i ∈ us ∧ i < σ2.length
    · exact absurd ⟨h i q2.1, q2.2⟩ q
    · rw [if_neg q2, if_neg q2] at e2; exact e2
theorem wipe_idem {σ : L2.St} {vs : List Nat} : wipe (wipe σ vs) vs = wipe σ vs := by
  refine List.ext_getElem? fun i => ?_
  rw [wipe_get, wipe_get, wipe_length]
  by_cases q : i ∈ vs ∧ i < σ.length
  · rw [if_pos q, if_pos q]
  · rw [if_neg q]
/-- the target's reading; the relation may hold of a part of the heap -/
def rdG (K : PySem.W.Frag) (t : T) : TG := fun v σ H Q => ∃ w s Hm ρ, (∀ b o, Hm b = some o → H b = some o) ∧ RW K Hm ρ w v ∧ RSt K Hm ρ s σ ∧ ∃ s', asgT t w s = some s' ∧ ∀ σ', RSt K Hm ρ s' σ' → wipe σ' (T.vars t) = wipe σ (T.vars t) → Q σ' H
def rdGs (K : PySem.W.Frag) (ts : Ts) : TGs := fun vs σ H Q => ∃ ws s Hm ρ, (∀ b o, Hm b = some o → H b = some o) ∧ RWs K Hm ρ ws vs ∧ RSt K Hm ρ s σ ∧ ∃ s', asgTs ts ws s = some s' ∧ ∀ σ', RSt K Hm ρ s' σ' → wipe σ' (Ts.vars ts) = wipe σ (Ts.vars ts) → Q σ' H
theorem PG.weak {t t' : TG} (p : PG X x t) (f : ∀ v σ H Q, t' v σ H Q → t v σ H Q) : PG X x t' := ⟨fun pins s σ H v u Q I r h => p.run pins s σ H v u Q I r (f _ _ _ _ h)⟩
theorem PGs.weak {t t' : TGs} (p : PGs X xs t) (f : ∀ v σ H Q, t' v σ H Q → t v σ H Q) : PGs X xs t' := ⟨fun pins s σ H v u Q I r h => p.run pins s σ H v u Q I r (f _ _ _ _ h)⟩
theorem okT_nst {t : T} (h : okT c t x = true) : (∀ env, (assignEach (x :: xs) env).map (·.2) = assign x env :: (assignEach xs env).map (·.2)) ∧ ∀ env, assignEach (x :: xs) env = (false, assign x env) :: assignEach xs env := by
  cases x with
  | Starred e p => cases t <;> (unfold okT at h; cases h)
  | _ => exact ⟨fun _ => rfl, fun _ => rfl⟩
theorem asgTs_len : ∀ {ts : Ts} {ws : List W} {s s' : Sto}, asgTs ts ws s = some s' → ∀ {xs : List Expr}, okTs c ts xs = true → ws.length = xs.length ∧ ∀ env, (assignEach xs env).length = xs.length ∧ (assignEach xs env).findIdx? (·.1) = none
  | .nil, [], s, s', h, [], _ => ⟨rfl, fun _ => ⟨rfl, rfl⟩⟩
  | .nil, [], s, s', h, _ :: _, h2 => by unfold okTs at h2; cases h2
  | .nil, _ :: _, s, s', h, _, _ => by unfold asgTs at h; cases h
  | .cons t ts, [], s, s', h, _, _ => by unfold asgTs at h; cases h
  | .cons t ts, w :: ws, s, s', h, [], h2 => by unfold okTs at h2; cases h2
  | .cons t ts, w :: ws, s, s', h, x :: xs, h2 => by
    unfold asgTs at h
    split at h
    · rename_i s1 e1
      unfold okTs at h2
      rw [Bool.and_eq_true] at h2
      obtain ⟨a, b⟩ := asgTs_len h h2.2
      refine ⟨by simp [a], fun env => ?_⟩
      rw [(okT_nst (xs := xs) h2.1).2 env]
      obtain ⟨b1, b2⟩ := b env
      refine ⟨by simp [b1], ?_⟩
      rw [List.findIdx?_cons]
      simp [b2]
    · cases h
theorem okTs_fin : ∀ {ts : Ts} {xs : List Expr}, okTs c ts xs = true → ∀ env, (assignEach xs env).length = xs.length ∧ (assignEach xs env).findIdx? (·.1) = none
  | .nil, [], _, _ => ⟨rfl, rfl⟩
  | .nil, _ :: _, h2, _ => by unfold okTs at h2; cases h2
  | .cons t ts, [], h2, _ => by unfold okTs at h2; cases h2
  | .cons t ts, x :: xs, h2, env => by
    unfold okTs at h2
    rw [Bool.and_eq_true] at h2
    obtain ⟨b1, b2⟩ := okTs_fin h2.2 env
    rw [(okT_nst (xs := xs) h2.1).2 env]
    refine ⟨by simp [b1], ?_⟩
    rw [List.findIdx?_cons]
    simp [b2]
theorem wipe_app {σ σ2 : L2.St} {us vs : List Nat} (h : wipe σ us = wipe σ2 us) : wipe σ (us ++ vs) = wipe σ2 (us ++ vs) ∧ wipe σ (vs ++ us) = wipe σ2 (vs ++ us) := ⟨wipe_mono (fun i hi => by simp [hi]) h, wipe_mono (fun i hi => by simp [hi]) h⟩
mutual
theorem pg_T (g : Gd X W' c cA G k) : ∀ {t : T} {x : Expr}, okT c t x = true → PG X x (rdG X.K t)
  | .name i, x, h => by
    unfold okT at h
    split at h
    · rw [Bool.and_eq_true] at h
      obtain ⟨l1, l2⟩ := g.loc h.2
      refine PG.weak (pg_name g.hN (g.ix h.1) l1 l2) fun v σ H Q ⟨w, s, Hm, ρ, sub, rw, rst, s', e, f⟩ => ?_
      unfold asgT at e
      cases e
      refine f _ (rst.set rw) ?_
      show (σ.set i (some v)).set i none = σ.set i none
      rw [List.set_set]
    · cases h
  | .tup ts, x, h => by
    unfold okT at h
    split at h
    · refine PG.weak (pg_tup g.calm (pg_Ts g h) ((okTs_fin h X.env).1) ((okTs_fin h X.env).2)) fun v σ H Q ⟨w, s, Hm, ρ, sub, rw, rst, s', e, f⟩ => ?_
      unfold asgT at e
      split at e
      · cases rw with
        | tup ha rs =>
          refine ⟨_, _, rfl, SqT.of (sub _ _ ha), ?_, _, s, Hm, ρ, sub, rs, rst, s', e, fun σ' r q => f σ' r ?_⟩
          · rw [← rs.length, (asgTs_len e h).1]
          · unfold T.vars; exact q
      · cases e
    · cases h
theorem pg_Ts (g : Gd X W' c cA G k) : ∀ {ts : Ts} {xs : List Expr}, okTs c ts xs = true → PGs X xs (rdGs X.K ts)
  | .nil, [], _ => PGs.weak pgs_nil fun vs σ H Q ⟨ws, s, Hm, ρ, sub, rws, rst, s', e, f⟩ => by
    cases ws with
    | nil => cases rws; unfold asgTs at e; cases e; exact ⟨rfl, f σ rst rfl⟩
    | cons w ws => unfold asgTs at e; cases e
  | .nil, _ :: _, h => by unfold okTs at h; cases h
  | .cons t ts, [], h => by unfold okTs at h; cases h
  | .cons t ts, x :: xs, h => by
    unfold okTs at h
    rw [Bool.and_eq_true] at h
    refine PGs.weak (pgs_cons (pg_T g h.1) (pg_Ts g h.2) ((okT_nst h.1).1 X.env)) fun vs σ H Q ⟨ws, s, Hm, ρ, sub, rws, rst, s', e, f⟩ => ?_
    cases rws with
    | nil => unfold asgTs at e; cases e
    | cons rw rws =>
      unfold asgTs at e
      split at e
      · rename_i s1 e1
        refine ⟨_, _, rfl, _, s, Hm, ρ, sub, rw, rst, s1, e1, fun σ1 r1 q1 => ?_⟩
        refine ⟨_, s1, Hm, ρ, sub, rws, r1, s', e, fun σ2 r2 q2 => f σ2 r2 ?_⟩
        unfold Ts.vars
        exact (wipe_app q2).2.trans (wipe_app q1).1
      · cases e
end
/-! ### what is walked -/
def rdI (K : PySem.W.Frag) (cA : Str → Addr) (W' : WX) (m : Sto → Hq → R (List W)) (kd : Ik) : TI := fun σ H Rk => ∃ s h ρ, Rep K cA ρ h H ∧ RSt K H ρ s σ ∧ OutE K cA W' σ H ρ (m s h) fun ws h' H' ρ' => ∃ xs, itemsW kd ws = some xs ∧ ∀ J, WalkW K cA J xs H' ρ' → Rk J H'
theorem PI.weak {tg : Expr} {t t' : TI} (p : PI X tg x t) (f : ∀ σ H Q, t' σ H Q → t σ H Q) : PI X tg x t' := ⟨fun pins s σ H R I h => p.run pins s σ H R I (f _ _ _ h)⟩
theorem evEs_one {s : Sto} {h : Hq} : evEs G (.cons a .nil) s h = (evE G a s h).bind fun w h => .ok [w] h := by
  simp only [evEs, R.bind]
theorem evEs_two {s : Sto} {h : Hq} : evEs G (.cons a (.cons b .nil)) s h = (evE G a s h).bind fun w h => (evE G b s h).bind fun u h => .ok [w, u] h := by
  simp only [evEs, R.bind_assoc]; rfl
def Es.All (P : E → Prop) : Es → Prop
  | .nil => True
  | .cons e es => P e ∧ Es.All P es
theorem PEs.of_all : ∀ {es : Es} {xs : List Expr}, Es.All (fun e => ∀ y, okE c e y = true → Snd X W' cA (evE G e) y) es → okEs c es xs = true → PEs X W' cA G es xs
  | .nil, [], _, _ => .nil
  | .nil, _ :: _, _, h => by unfold okEs at h; cases h
  | .cons e es, [], _, h => by unfold okEs at h; cases h
  | .cons e es, x :: xs, ha, h => by
    unfold okEs at h
    simp only [Bool.and_eq_true] at h
    exact .cons h.1 (ha.1 x h.2.1) (PEs.of_all ha.2 h.2.2)
theorem nst_sing {x : Expr} (h : nst x = true) : nstL [x] = true := by unfold nstL nstL; rw [h]; rfl
theorem pi_I (g : Gd X W' c cA G k) : ∀ {kd : Ik} {es : Es} {tg x : Expr}, Es.All (fun e => ∀ y, okE c e y = true → Snd X W' cA (evE G e) y) es → okI c kd es tg x = true → PI X tg x (rdI X.K cA W' (evEs G es) kd)
  | .one, es, tg, x, h1, h => by
    unfold okI at h
    split at h
    · rename_i e
      refine PI.weak (pi_oneS (h1.1 x h).pe) fun σ H Rk ⟨s, h, ρ, rep, rst, o⟩ => ?_
      rw [evEs_one] at o
      refine rd1 rep rst o fun w h1 H1 ρ1 v rep1 ext st rw o1 => ?_
      obtain ⟨xs, e, f⟩ := o1.now rep1
      obtain ⟨sr, vs, e2, hs, rs⟩ := src_of (show srcW w = some xs from e) rep1 rw
      exact ⟨sr, vs, e2, hs H1 ρ1 Ext.refl, f _ (walk_oneS rep1.tupOk hs rs)⟩
    · cases h
  | .enum, es, tg, x, h1, h => by
    unfold okI at h
    split at h
    · rename_i e
      split at h
      · simp only [Bool.and_eq_true] at h
        obtain ⟨e1, e2, e3, e4, e5⟩ := h
        cases of_decide_eq_true e1
        cases tg <;> first | (cases e4; done) | skip
        refine PI.weak (pi_enumS (g.gl e2) (g.ok.blt _ (by decide)) (pa_cons (h1.1 _ e5).pe pa_nil (star_cons e3)) (star_cons e3)) fun σ H Rk ⟨s, h, ρ, rep, rst, o⟩ => ?_
        rw [evEs_one] at o
        refine rd1 rep rst o fun w h1 H1 ρ1 v rep1 ext st rw o1 => ?_
        obtain ⟨xs, e, f⟩ := o1.now rep1
        unfold itemsW at e
        dsimp only at e
        split at e
        · rename_i xs0 e0
          cases e
          obtain ⟨sr, vs, e2, hs, rs⟩ := src_of e0 rep1 rw
          exact ⟨sr, vs, by rw [e2], hs H1 ρ1 Ext.refl, f _ (walk_enumS rep1.tupOk hs rs)⟩
        · cases e
      · cases h
    · cases h
  | .range, es, tg, x, h1, h => by
    unfold okI at h
    split at h
    · rename_i e
      split at h
      · simp only [Bool.and_eq_true] at h
        obtain ⟨e1, e2, e3, e4⟩ := h
        cases of_decide_eq_true e1
        refine PI.weak (pi_range1 (g.gl e2) (g.ok.blt _ (by decide)) (pa_cons (h1.1 _ e4).pe pa_nil (star_cons e3)) (star_cons e3)) fun σ H Rk ⟨s, h, ρ, rep, rst, o⟩ => ?_
        rw [evEs_one] at o
        refine rd1 rep rst o fun w h1 H1 ρ1 v rep1 ext st rw o1 => ?_
        obtain ⟨xs, e, f⟩ := o1.now rep1
        cases w with
        | int n =>
          cases rw
          have e : (if decide (-(2 ^ 62) ≤ n) && decide (n < 2 ^ 62) then some ((List.range n.toNat).map fun (i : Nat) => W.int (i : Int)) else none) = some xs := e
          split at e
          · rename_i hb
            cases e
            simp only [Bool.and_eq_true, decide_eq_true_eq] at hb
            exact ⟨n, rfl, hb.1, hb.2, f _ walk_rangeS⟩
          · cases e
        | _ => cases e
      · cases h
    · cases h
  | .zip, es, tg, x, h1, h => by
    unfold okI at h
    split at h
    · rename_i e e'
      split at h
      · simp only [Bool.and_eq_true] at h
        obtain ⟨e1, e2, e3, e4, e5, e6, e7⟩ := h
        cases of_decide_eq_true e1
        cases tg <;> first | (cases e5; done) | skip
        refine PI.weak (pi_zipS (g.gl e2) (g.ok.blt _ (by decide)) (pa_cons (h1.1 _ e6).pe (pa_cons (h1.2.1 _ e7).pe pa_nil (star_cons e4)) (star_cons e3)) (star_cons e3) (star_any (nst_sing e4))) fun σ H Rk ⟨s, h, ρ, rep, rst, o⟩ => ?_
        rw [evEs_two] at o
        refine rd2 rep rst o fun w u h1 H1 ρ1 v v2 rep1 ext st rw rw2 o1 => ?_
        obtain ⟨xs, e, f⟩ := o1.now rep1
        unfold itemsW at e
        dsimp only at e
        split at e
        · rename_i xs0 ys0 e0 e9
          cases e
          obtain ⟨sr, vs, ee2, hs, rs⟩ := src_of e0 rep1 rw
          obtain ⟨sr', us, ee3, hs', rs'⟩ := src_of e9 rep1 rw2
          exact ⟨sr, sr', vs, us, by rw [ee2, ee3], hs H1 ρ1 Ext.refl, hs' H1 ρ1 Ext.refl, f _ (walk_zipS rep1.tupOk hs hs' rs rs')⟩
        · cases e
      · cases h
    · cases h
end
end MP
set_option Elab.async false
set_option linter.all false
set_option maxRecDepth 100000
set_option maxHeartbeats 4000000
/-! MP17: comprehensions. -/
namespace MP
open PySem PySem.Spec PyProof.Rows L2
section
variable {X : Cx} {W' W2 : WX} {c : SC} {cA : Str → Addr} {G : Gam} {k : Nat} {x y z : Expr} {pos p1 p2 : Pos} {a b d : E} {es : Es} {xs : List Expr}
abbrev W0 : WX := fun _ _ _ _ => False
theorem Gd.blk (g : Gd X W' c cA G k) {scope : Scope} (hk : scope.kind = .function) (s : Shared) (H : Hp) (C : Addr) (cl : List (Str × Addr)) (fp : List Addr) : Gd (X.blk s H scope (compEnvC scope cl C X.env) fp) W0 (blkSC c scope) cA G k :=
  ⟨g.nN, g.nd, by show relS scope X.env.scope = relS scope c.sc; rw [g.sc], fun x h => h, hk, g.calm, g.room, takes0, g.ok⟩
theorem blk_ok (g : Gd X W' c cA G k) {scope : Scope} {own : List (Str × Nat)} (h : blkB c scope own = true) : scope.kind = .function ∧ BlkOk X.N X.env.scope scope own := by
  unfold blkB at h
  simp only [Bool.and_eq_true, List.all_eq_true, decide_eq_true_eq, beq_iff_eq, Bool.or_eq_true, Bool.not_eq_true', beq_eq_false_iff_ne, Bool.or_eq_false_iff, List.any_eq_true] at h
  obtain ⟨h1, h2, h3, h4, h5⟩ := h
  refine ⟨h1, h1, fun y hy => h2 y hy, fun p hp => by rw [g.nN]; exact h3 p hp, fun y hy e => ?_, fun y hy e => ?_⟩
  · rw [g.sc]
    rcases h4 y hy with q | q
    · exact absurd e q
    · exact q
  · rcases h5 y hy with q | q | q
    · rcases e with e | e
      · exact absurd e q.1
      · exact absurd e q.2
    · obtain ⟨p, hp, e⟩ := q
      exact .inl (List.mem_map.mpr ⟨p, hp, e⟩)
    · refine .inr fun hm => ?_
      rw [g.nN] at hm
      have := List.any_eq_false.mp q y.1 hm
      simp at this
/-- a clause's test -/
def tCond (K : PySem.W.Frag) (cA : Str → Addr) (G : Gam) : Eo → TT
  | .no => tYes
  | .yes e => tHidT (rdT K cA W0 fun s h => tstR (evE G e s h))
theorem pts_of {cond : Eo} {ifs : List Expr} {X : Cx} (h : okEc c cond ifs = true) (p : ∀ e, cond = .yes e → ∀ y, okE c e y = true → Snd X W0 cA (evE G e) y) : PTs X ifs (tCond X.K cA G cond) := by
  cases cond with
  | no =>
    unfold okEc at h
    split at h
    · exact pts_nil
    · cases h
  | yes e =>
    unfold okEc at h
    split at h
    · exact pts_one (PT.hid (p e rfl _ h).pt)
    · cases h
/-- the condition, then the element -/
theorem hid_now {K : PySem.W.Frag} {σ σ2 : L2.St} {H3 : Hp} {D : Addr} {acc : List V} {ρ : Rho} {h : Hq} {s : Sto} {e : E} {β : Type} {f : W → Hq → R β} {q : β → Hq → Hp → Rho → Prop} {Qk : V → Hp → Prop} (hD : H3 D = some (.lst acc)) (rep : Rep K cA ρ h (hide [D] H3)) (rst : RSt K (hide [D] H3) ρ s σ2)
    (o : OutE K cA W' σ (hide [D] H3) ρ ((MP.noExc (evE G e s h)).bind f) q)
    (hk : ∀ w h4 H4 ρ4 v, Rep K cA ρ4 h4 (hide [D] H4) → Ext (hide [D] H3) ρ (hide [D] H4) ρ4 → H4 D = some (.lst acc) → RW K (hide [D] H4) ρ4 w v → OutE K cA W' σ (hide [D] H4) ρ4 (f w h4) q → Qk v H4) : tHid (rdE K cA W0 (evE G e)) σ2 H3 Qk := by
  refine ⟨D, acc, hD, s, h, ρ, rep, rst, o.noExc.imp fun w h4 H4 ρ4 _ rep4 ext o4 v rv n => ?_⟩
  have e := hide_one (o := .lst acc) n
  exact hk w h4 _ ρ4 v (by rw [e]; exact rep4) (by rw [e]; exact ext) upd_same (by rw [e]; exact rv) (by rw [e]; exact o4)
theorem cond_now {K : PySem.W.Frag} {σ σ2 : L2.St} {H3 : Hp} {D : Addr} {acc : List V} {ρ : Rho} {h : Hq} {s : Sto} {cond : Eo} {β : Type} {f : Bool → Hq → R β} {q : β → Hq → Hp → Rho → Prop} {Qk : Bool → Hp → Prop} (hD : H3 D = some (.lst acc)) (rep : Rep K cA ρ h (hide [D] H3)) (rst : RSt K (hide [D] H3) ρ s σ2)
    (o : OutE K cA W' σ (hide [D] H3) ρ ((evEc G cond s h).bind f) q)
    (hk : ∀ w h4 H4 ρ4, Rep K cA ρ4 h4 (hide [D] H4) → Ext (hide [D] H3) ρ (hide [D] H4) ρ4 → H4 D = some (.lst acc) → OutE K cA W' σ (hide [D] H4) ρ4 (f w h4) q → Qk w H4) : tCond K cA G cond σ2 H3 Qk := by
  cases cond with
  | no =>
    simp only [evEc, R.bind] at o
    exact hk true h H3 ρ rep Ext.refl hD o
  | yes e =>
    simp only [evEc] at o
    refine ⟨D, acc, hD, s, h, ρ, rep, rst, o.noExc.imp fun w h4 H4 ρ4 _ rep4 ext o4 n => ?_⟩
    have e := hide_one (o := .lst acc) n
    exact hk w h4 _ ρ4 (by rw [e]; exact rep4) (by rw [e]; exact ext) upd_same (by rw [e]; exact o4)
theorem drop_at {α : Type} {xs : List α} {i : Nat} {w : α} (h : xs[i]? = some w) : xs.drop i = w :: xs.drop (i + 1) := by
  have hl := (List.getElem?_eq_some_iff.mp h).1
  rw [List.drop_eq_getElem_cons hl]
  rw [List.getElem?_eq_getElem hl] at h
  cases h
  rfl
theorem lcF_out {K : PySem.W.Frag} {σ : L2.St} {H : Hp} {ρ : Rho} {t : T} {vs : List Nat} {cond : Eo} {elt : E} {s : Sto} {w : W} {h : Hq} {β : Type} {f : Option W → Hq → R β} {q : β → Hq → Hp → Rho → Prop} (o : OutE K cA W' σ H ρ ((lcF G t vs cond elt s w h).bind f) q) :
    ∃ s', asgT t w (wipeS s vs) = some s' ∧ OutE K cA W' σ H ρ ((evEc G cond s' h).bind fun b h => match b with
      | true => (MP.noExc (evE G elt s' h)).bind fun y h => f (some y) h
      | false => f none h) q := by
  unfold lcF at o
  split at o
  · rename_i s' e
    refine ⟨s', e, ?_⟩
    rw [R.bind_assoc] at o
    have e : ((fun a h => R.bind (match a with
      | true => (MP.noExc (evE G elt s' h)).bind fun y h => R.ok (some y) h
      | false => R.ok none h) f) : Bool → Hq → R β) = fun b h => match b with
      | true => (MP.noExc (evE G elt s' h)).bind fun y h => f (some y) h
      | false => f none h := by
      funext b h
      cases b with
      | true => exact R.bind_assoc _ _ _
      | false => rfl
    have o2 : OutE K cA W' σ H ρ ((evEc G cond s' h).bind fun a h => R.bind (match a with
      | true => (MP.noExc (evE G elt s' h)).bind fun y h => R.ok (some y) h
      | false => R.ok none h) f) q := o
    rw [e] at o2
    exact o2
  · exact o.elim
theorem lcLoop_cons {f : W → Hq → R (Option W)} {w : W} {ws acc : List W} {h : Hq} : lcLoop f (w :: ws) acc h = (f w h).bind fun o h1 => match o with
    | some y => if acc.length < line then lcLoop f ws (acc ++ [y]) h1 else .bad
    | none => lcLoop f ws acc h1 := rfl
theorem lc_rd {t : T} {vs : List Nat} {cond : Eo} {elt : E} {es : Es} {kd : Ik} {σ : L2.St} {H : Hp} {Q : VK} {s : Sto} {h : Hq} {ρ : Rho} (hv : ((T.vars t).all fun i => vs.contains i) = true) (rep : Rep X.K cA ρ h H) (rst : RSt X.K H ρ s σ)
    (o : OutE X.K cA W' σ H ρ ((evEs G es s h).bind fun ws h => match itemsW kd ws with
      | some xs => (lcLoop (lcF G t vs cond elt s) xs [] h).bind fun ys h => .ok (.lst ys) h
      | none => .bad) fun w _ H' ρ' => ∀ v, RW X.K H' ρ' w v → Q v H') :
    tLc (rdI X.K cA W' (evEs G es) kd) (rdG X.K t) (tCond X.K cA G cond) (tHid (rdE X.K cA W0 (evE G elt))) vs σ H Q := by
  refine ⟨s, h, ρ, rep, rst, o.bind.imp fun ws h1 H1 ρ1 _ rep1 ext1 o1 => ?_⟩
  split at o1
  · rename_i xs eI
    refine ⟨xs, eI, fun J wk D hD => ?_⟩
    have st1 := rst.mono ext1 rep.tupOk
    refine ⟨fun i m H => m = xs.length - i ∧ i ≤ xs.length ∧ ∃ h ρ accW acc, H D = some (.lst acc) ∧ Rep X.K cA ρ h (hide [D] H) ∧ Ext H1 ρ1 (hide [D] H) ρ ∧ RWs X.K (hide [D] H) ρ accW acc ∧
      OutE X.K cA W' σ (hide [D] H) ρ ((lcLoop (lcF G t vs cond elt s) (xs.drop i) accW h).bind fun ys h => .ok (.lst ys) h) fun w _ H' ρ' => ∀ v, RW X.K H' ρ' w v → Q v H', ⟨xs.length, by simp, by simp, h1, ρ1, [], [], upd_same, ?_, ?_, .nil, ?_⟩, ?_⟩
    · rw [hide_one hD]; exact rep1
    · rw [hide_one hD]; exact Ext.refl
    · rw [hide_one hD]; simpa using o1
    · rintro i m H2 ⟨rfl, hi, h2, ρ2, accW, acc, hD2, rep2, ext2, rws, o2⟩
      obtain ⟨turn, stop⟩ := wk [D] h2 H2 ρ2 (fun d hd => by rw [List.mem_singleton.mp hd, hD2]; exact fun z => nomatch z) ext2 rep2
      by_cases hlt : i < xs.length
      · obtain ⟨go, yld⟩ := turn i hlt
        refine .inr ⟨go, _, fun H' p => ⟨xs.length - (i + 1), by omega, p⟩, fun x H3 y => ?_⟩
        obtain ⟨w, ew, ext3, rep3, rw3, hD3⟩ := yld x H3 y
        have hD3 : H3 D = some (.lst acc) := by rw [hD3 D (by simp)]; exact hD2
        rw [drop_at ew] at o2
        have o3 := o2.ext ext3
        rw [lcLoop_cons, R.bind_assoc] at o3
        obtain ⟨s', ea, o3⟩ := lcF_out o3
        have st3 := (st1.mono (ext2.trans ext3) rep1.tupOk).wipe vs
        refine ⟨w, wipeS s vs, hide [D] H3, ρ2, fun b o h => hide_le h, rw3, st3, s', ea, fun σ2 st4 q4 => ⟨(wipe_mono (fun i hi => by simpa using List.all_eq_true.mp hv i hi) q4).trans wipe_idem, ?_⟩⟩
        refine cond_now hD3 rep3 st4 o3 fun b h4 H4 ρ4 rep4 ext4 hD4 o4 => ?_
        cases b with
        | true =>
          rw [if_pos rfl]
          refine hid_now hD4 rep4 (st4.mono ext4 rep3.tupOk) o4 fun y5 h5 H5 ρ5 v5 rep5 ext5 hD5 rw5 o5 => ?_
          have o6 : OutE X.K cA W' σ (hide [D] H5) ρ5 ((if accW.length < line then lcLoop (lcF G t vs cond elt s) (xs.drop (i + 1)) (accW ++ [y5]) h5 else .bad).bind fun ys h => .ok (.lst ys) h) fun w _ H' ρ' => ∀ v, RW X.K H' ρ' w v → Q v H' := o5
          by_cases hz : accW.length < line
          · rw [if_pos hz] at o6
            have rws5 := ((rws.mono ext3 rep2.tupOk).mono ext4 rep3.tupOk).mono ext5 rep4.tupOk
            refine ⟨acc, hD5, by rw [← rws.length, sizeLine_line]; exact hz, rfl, hlt, h5, ρ5, accW ++ [y5], acc ++ [v5], upd_same, ?_⟩
            have eh : hide [D] (upd H5 D (.lst (acc ++ [v5]))) = hide [D] H5 := by
              funext b
              by_cases q : b ∈ [D]
              · rw [hide_in q, hide_in q]
              · rw [hide_out q, hide_out q, upd_ne (by simpa using q)]
            rw [eh]
            exact ⟨rep5, ((ext2.trans ext3).trans ext4).trans ext5, rws5.append (.cons rw5 .nil), o6⟩
          · rw [if_neg hz] at o6
            exact o6.elim
        | false =>
          rw [if_neg (by decide)]
          exact ⟨rfl, hlt, h4, ρ4, accW, acc, hD4, rep4, (ext2.trans ext3).trans ext4, (rws.mono ext3 rep2.tupOk).mono ext4 rep3.tupOk, o4⟩
      · have ei : i = xs.length := by omega
        subst ei
        refine .inl ⟨stop, ?_⟩
        rw [List.drop_length] at o2
        have o3 : Fin X.K cA ρ2 h2 (hide [D] H2) (.lst accW) Q := o2
        have := new_lst rep2 rws (hide_in (ds := [D]) (H := H2) (b := D) (by simp)) o3
        rwa [hide_back hD2] at this
  · exact o1.elim
theorem s_lc (g : Gd X W' c cA G k) {t : T} {own : List (Str × Nat)} {cond : Eo} {elt : E} {its : Es} {kd : Ik} {el tg it : Expr} {ifs : List Expr} {scope : Scope} (hB : blkB c scope own = true) (hI : PI X tg it (rdI X.K cA W' (evEs G its) kd)) (hT : okT (blkSC c scope) t tg = true) (hn : nset it = true)
    (hv : ((T.vars t).all fun i => (own.map (·.2)).contains i) = true) (hc : okEc (blkSC c scope) cond ifs = true)
    (pc : ∀ e, cond = .yes e → ∀ (X : Cx) (y : Expr), Gd X W0 (blkSC c scope) cA G k → okE (blkSC c scope) e y = true → Snd X W0 cA (evE G e) y) (pe : ∀ (X : Cx), Gd X W0 (blkSC c scope) cA G k → Snd X W0 cA (evE G elt) el) :
    Snd X W' cA (evE G (.lc own t kd its cond elt)) (.ListComp el [⟨tg, it, ifs, 0⟩] scope pos) ∧
    ∀ {i : Nat} {y : Str} {py spos : Pos}, X.N[i]? = some y → X.env.scope.names.lookup y = some .local → swapsWith (.ListComp el [⟨tg, it, ifs, 0⟩] scope pos) (some (.Name y py)) spos.line X.env = pure true →
      ∃ te, (∀ σ H Q, rdE X.K cA W' (evE G (.lc own t kd its cond elt)) σ H Q → te σ H Q) ∧ PS X (.Assign [.Name y py] (.ListComp el [⟨tg, it, ifs, 0⟩] scope pos) spos) (tAsg te (gName i)) := by
  obtain ⟨hk, hb⟩ := blk_ok g hB
  have rd : ∀ σ H Q, rdE X.K cA W' (evE G (.lc own t kd its cond elt)) σ H Q → tLc (rdI X.K cA W' (evEs G its) kd) (rdG X.K t) (tCond X.K cA G cond) (tHid (rdE X.K cA W0 (evE G elt))) (own.map (·.2)) σ H Q := fun σ H Q ⟨s, h, ρ, rep, rst, o⟩ => by
    unfold evE at o
    exact lc_rd hv rep rst o
  have a1 : ∀ (s : Shared) (H : Hp) (C : Addr) (cl : List (Str × Addr)) (fp : List Addr), PG (X.blk s H scope (compEnvC scope cl C X.env) fp) tg (rdG X.K t) := fun s H C cl fp => pg_T (g.blk hk s H C cl fp) hT
  have a2 : ∀ (s : Shared) (H : Hp) (C : Addr) (cl : List (Str × Addr)) (fp : List Addr), PTs (X.blk s H scope (compEnvC scope cl C X.env) fp) ifs (tCond X.K cA G cond) := fun s H C cl fp => pts_of hc fun e he y hy => pc e he _ y (g.blk hk s H C cl fp) hy
  have a3 : ∀ (s : Shared) (H : Hp) (C : Addr) (cl : List (Str × Addr)) (fp : List Addr), PE (X.blk s H scope (compEnvC scope cl C X.env) fp) el (tHid (rdE X.K cA W0 (evE G elt))) := fun s H C cl fp => PE.hid (pe _ (g.blk hk s H C cl fp)).pe
  exact ⟨Snd.pl (PE.weak (pe_lc g.calm g.hN hI hb a1 a2 a3 (fold_of hn)) rd) rfl, fun hy hyl hsw => ⟨_, rd, ps_setLc g.calm g.hN hy hyl hsw hI hb a1 a2 a3 (fold_of hn)⟩⟩
end
end MP
set_option Elab.async false
set_option linter.all false
set_option maxRecDepth 100000
set_option maxHeartbeats 4000000
/-! MP18: comprehensions of two clauses. -/
namespace MP
open PySem PySem.Spec PyProof.Rows L2
section
variable {X : Cx} {W' W2 : WX} {c : SC} {cA : Str → Addr} {G : Gam} {k : Nat} {x y z : Expr} {pos p1 p2 : Pos} {a b d : E} {es : Es} {xs : List Expr}
theorem lcF2_out {K : PySem.W.Frag} {σ : L2.St} {H : Hp} {ρ : Rho} {t t1 : T} {vs vs1 : List Nat} {it1 elt : E} {s : Sto} {w : W} {acc : List W} {h : Hq} {β : Type} {f : List W → Hq → R β} {q : β → Hq → Hp → Rho → Prop} (o : OutE K cA W' σ H ρ ((lcF2 G t vs vs1 it1 t1 elt s w acc h).bind f) q) :
    ∃ s', asgT t w (wipeS s vs) = some s' ∧ OutE K cA W' σ H ρ ((MP.noExc (evE G it1 s' h)).bind fun v h => match itemsW .one [v] with
      | some zs => (lcLoop (lcF G t1 vs1 .no elt s') zs acc h).bind f
      | none => .bad) q := by
  unfold lcF2 at o
  split at o
  · rename_i s' e
    refine ⟨s', e, ?_⟩
    rw [R.bind_assoc] at o
    have e : ((fun v h => R.bind (match itemsW .one [v] with
      | some zs => lcLoop (lcF G t1 vs1 .no elt s') zs acc h
      | none => .bad) f) : W → Hq → R β) = fun v h => match itemsW .one [v] with
      | some zs => (lcLoop (lcF G t1 vs1 .no elt s') zs acc h).bind f
      | none => .bad := by
      funext v h
      cases itemsW .one [v] <;> rfl
    have o2 : OutE K cA W' σ H ρ ((MP.noExc (evE G it1 s' h)).bind fun v h => R.bind (match itemsW .one [v] with
      | some zs => lcLoop (lcF G t1 vs1 .no elt s') zs acc h
      | none => .bad) f) q := o
    rw [e] at o2
    exact o2
  · exact o.elim
theorem lcF_no_out {K : PySem.W.Frag} {σ : L2.St} {H : Hp} {ρ : Rho} {t : T} {vs : List Nat} {elt : E} {s : Sto} {w : W} {h : Hq} {β : Type} {f : Option W → Hq → R β} {q : β → Hq → Hp → Rho → Prop} (o : OutE K cA W' σ H ρ ((lcF G t vs .no elt s w h).bind f) q) :
    ∃ s', asgT t w (wipeS s vs) = some s' ∧ OutE K cA W' σ H ρ ((MP.noExc (evE G elt s' h)).bind fun y h => f (some y) h) q := by
  obtain ⟨s', e, o2⟩ := lcF_out o
  refine ⟨s', e, ?_⟩
  simp only [evEc, R.bind] at o2
  exact o2
theorem hide_app {H : Hp} {D : Addr} {o : HO} : hide [D] (upd H D o) = hide [D] H := by
  funext b
  by_cases q : b ∈ [D]
  · rw [hide_in q, hide_in q]
  · rw [hide_out q, hide_out q, upd_ne (by simpa using q)]
theorem lc2_rd {t t1 : T} {vs vs1 : List Nat} {it1 elt : E} {es : Es} {kd : Ik} {σ : L2.St} {H : Hp} {Q : VK} {s : Sto} {h : Hq} {ρ : Rho} (hv : ((T.vars t).all fun i => vs.contains i) = true) (hv1 : ((T.vars t1).all fun i => vs1.contains i) = true) (rep : Rep X.K cA ρ h H) (rst : RSt X.K H ρ s σ)
    (o : OutE X.K cA W' σ H ρ ((evEs G es s h).bind fun ws h => match itemsW kd ws with
      | some xs => (lcLoop2 (lcF2 G t vs vs1 it1 t1 elt s) xs [] h).bind fun ys h => .ok (.lst ys) h
      | none => .bad) fun w _ H' ρ' => ∀ v, RW X.K H' ρ' w v → Q v H') :
    tLc2 (rdI X.K cA W' (evEs G es) kd) (rdG X.K t) tYes (iOneS X.K (tHid (rdE X.K cA W0 (evE G it1)))) (rdG X.K t1) tYes (tHid (rdE X.K cA W0 (evE G elt))) vs vs1 σ H Q := by
  refine ⟨s, h, ρ, rep, rst, o.bind.imp fun ws h1 H1 ρ1 _ rep1 ext1 o1 => ?_⟩
  split at o1
  · rename_i xs eI
    refine ⟨xs, eI, fun J wk D hD => ?_⟩
    have st1 := rst.mono ext1 rep.tupOk
    refine ⟨fun i m H => m = xs.length - i ∧ i ≤ xs.length ∧ ∃ h ρ accW acc, H D = some (.lst acc) ∧ Rep X.K cA ρ h (hide [D] H) ∧ Ext H1 ρ1 (hide [D] H) ρ ∧ RWs X.K (hide [D] H) ρ accW acc ∧
      OutE X.K cA W' σ (hide [D] H) ρ ((lcLoop2 (lcF2 G t vs vs1 it1 t1 elt s) (xs.drop i) accW h).bind fun ys h => .ok (.lst ys) h) fun w _ H' ρ' => ∀ v, RW X.K H' ρ' w v → Q v H', ⟨xs.length, by simp, by simp, h1, ρ1, [], [], upd_same, ?_, ?_, .nil, ?_⟩, ?_⟩
    · rw [hide_one hD]; exact rep1
    · rw [hide_one hD]; exact Ext.refl
    · rw [hide_one hD]; simpa using o1
    · rintro i m H2 ⟨rfl, hi, h2, ρ2, accW, acc, hD2, rep2, ext2, rws, o2⟩
      obtain ⟨turn, stop⟩ := wk [D] h2 H2 ρ2 (fun d hd => by rw [List.mem_singleton.mp hd, hD2]; exact fun z => nomatch z) ext2 rep2
      by_cases hlt : i < xs.length
      · obtain ⟨go, yld⟩ := turn i hlt
        refine .inr ⟨go, _, fun H' p => ⟨xs.length - (i + 1), by omega, p⟩, fun x H3 y => ?_⟩
        obtain ⟨w, ew, ext3, rep3, rw3, hD3⟩ := yld x H3 y
        have hD3 : H3 D = some (.lst acc) := by rw [hD3 D (by simp)]; exact hD2
        rw [drop_at ew] at o2
        have o3 := o2.ext ext3
        rw [show lcLoop2 (lcF2 G t vs vs1 it1 t1 elt s) (w :: xs.drop (i + 1)) accW h2 = (lcF2 G t vs vs1 it1 t1 elt s w accW h2).bind fun acc1 h1 => lcLoop2 (lcF2 G t vs vs1 it1 t1 elt s) (xs.drop (i + 1)) acc1 h1 from rfl, R.bind_assoc] at o3
        obtain ⟨s', ea, o3⟩ := lcF2_out o3
        have st3 := (st1.mono (ext2.trans ext3) rep1.tupOk).wipe vs
        refine ⟨w, wipeS s vs, hide [D] H3, ρ2, fun b o h => hide_le h, rw3, st3, s', ea, fun σ2 st4 q4 => ⟨(wipe_mono (fun i hi => by simpa using List.all_eq_true.mp hv i hi) q4).trans wipe_idem, ?_⟩⟩
        dsimp only [tYes]
        rw [if_pos rfl]
        refine hid_now hD3 rep3 st4 o3 fun v1 h4 H4 ρ4 vv rep4 ext4 hD4 rw4 o4 => ?_
        have rws4 := (rws.mono ext3 rep2.tupOk).mono ext4 rep3.tupOk
        have st5 := st4.mono ext4 rep3.tupOk
        split at o4
        · rename_i zs eZ
          obtain ⟨sr, us, e2, hs, rs⟩ := src_of (show srcW v1 = some zs from eZ) rep4 rw4
          have wk1 : WalkW X.K cA (ItS X.K sr) zs (hide [D] H4) ρ4 := walk_oneS rep4.tupOk hs rs
          refine ⟨sr, us, e2, Sr.Has.unhide (hs _ ρ4 Ext.refl), ?_⟩
          refine ⟨fun j kk H => kk = zs.length - j ∧ j ≤ zs.length ∧ ∃ h ρ accW acc, H D = some (.lst acc) ∧ Rep X.K cA ρ h (hide [D] H) ∧ Ext (hide [D] H4) ρ4 (hide [D] H) ρ ∧ RWs X.K (hide [D] H) ρ accW acc ∧
            OutE X.K cA W' σ (hide [D] H) ρ ((lcLoop (lcF G t1 vs1 .no elt s') (zs.drop j) accW h).bind fun acc1 h1 => (lcLoop2 (lcF2 G t vs vs1 it1 t1 elt s) (xs.drop (i + 1)) acc1 h1).bind fun ys h => .ok (.lst ys) h) fun w _ H' ρ' => ∀ v, RW X.K H' ρ' w v → Q v H',
            ⟨zs.length, by simp, by simp, h4, ρ4, accW, acc, hD4, rep4, Ext.refl, rws4, by simpa using o4⟩, ?_⟩
          rintro j kk H5 ⟨rfl, hj, h5, ρ5, accW5, acc5, hD5, rep5, ext5, rws5, o5⟩
          obtain ⟨turn1, stop1⟩ := wk1 [D] h5 H5 ρ5 (fun d hd => by rw [List.mem_singleton.mp hd, hD5]; exact fun z => nomatch z) ext5 rep5
          by_cases hlt1 : j < zs.length
          · obtain ⟨go1, yld1⟩ := turn1 j hlt1
            refine .inr ⟨go1, _, fun H' p => ⟨zs.length - (j + 1), by omega, p⟩, fun x1 H6 y1 => ?_⟩
            obtain ⟨w6, ew6, ext6, rep6, rw6, hD6⟩ := yld1 x1 H6 y1
            have hD6 : H6 D = some (.lst acc5) := by rw [hD6 D (by simp)]; exact hD5
            rw [drop_at ew6] at o5
            have o6 := o5.ext ext6
            rw [lcLoop_cons, R.bind_assoc] at o6
            obtain ⟨s6, ea6, o6⟩ := lcF_no_out o6
            have st6 := (st5.mono (ext5.trans ext6) rep4.tupOk).wipe vs1
            refine ⟨w6, wipeS s' vs1, hide [D] H6, ρ5, fun b o h => hide_le h, rw6, st6, s6, ea6, fun σ3 st7 q7 => ⟨(wipe_mono (fun i hi => by simpa using List.all_eq_true.mp hv1 i hi) q7).trans wipe_idem, ?_⟩⟩
            dsimp only [tYes]
            rw [if_pos rfl]
            refine hid_now hD6 rep6 st7 o6 fun y8 h8 H8 ρ8 v8 rep8 ext8 hD8 rw8 o8 => ?_
            have o9 : OutE X.K cA W' σ (hide [D] H8) ρ8 ((if accW5.length < line then lcLoop (lcF G t1 vs1 .no elt s') (zs.drop (j + 1)) (accW5 ++ [y8]) h8 else .bad).bind fun acc1 h1 => (lcLoop2 (lcF2 G t vs vs1 it1 t1 elt s) (xs.drop (i + 1)) acc1 h1).bind fun ys h => .ok (.lst ys) h) fun w _ H' ρ' => ∀ v, RW X.K H' ρ' w v → Q v H' := o8
            by_cases hz : accW5.length < line
            · rw [if_pos hz] at o9
              have rws8 := (rws5.mono ext6 rep5.tupOk).mono ext8 rep6.tupOk
              refine ⟨acc5, hD8, by rw [← rws5.length, sizeLine_line]; exact hz, rfl, hlt1, h8, ρ8, accW5 ++ [y8], acc5 ++ [v8], upd_same, ?_⟩
              rw [hide_app]
              exact ⟨rep8, (ext5.trans ext6).trans ext8, rws8.append (.cons rw8 .nil), o9⟩
            · rw [if_neg hz] at o9
              exact o9.elim
          · have ej : j = zs.length := by omega
            subst ej
            refine .inl ⟨stop1, ?_⟩
            rw [List.drop_length] at o5
            exact ⟨rfl, hlt, h5, ρ5, accW5, acc5, hD5, rep5, ((ext2.trans ext3).trans ext4).trans ext5, rws5, o5⟩
        · exact o4.elim
      · have ei : i = xs.length := by omega
        subst ei
        refine .inl ⟨stop, ?_⟩
        rw [List.drop_length] at o2
        have o3 : Fin X.K cA ρ2 h2 (hide [D] H2) (.lst accW) Q := o2
        have := new_lst rep2 rws (hide_in (ds := [D]) (H := H2) (b := D) (by simp)) o3
        rwa [hide_back hD2] at this
  · exact o1.elim
theorem s_lc2 (g : Gd X W' c cA G k) {t t1 : T} {own : List (Str × Nat)} {vs1 : List Nat} {it1 elt : E} {its : Es} {kd : Ik} {el tg it tg1 itx1 : Expr} {scope : Scope} (hB : blkB c scope own = true) (hI : PI X tg it (rdI X.K cA W' (evEs G its) kd)) (hT : okT (blkSC c scope) t tg = true) (hn : nset it = true) (hn1 : nset itx1 = true)
    (hv : ((T.vars t).all fun i => (own.map (·.2)).contains i) = true) (hv1 : ((T.vars t1).all fun i => vs1.contains i) = true) (hvs : (vs1.all fun i => (own.map (·.2)).contains i) = true) (hT1 : okT (blkSC c scope) t1 tg1 = true)
    (pi : ∀ (X : Cx), Gd X W0 (blkSC c scope) cA G k → Snd X W0 cA (evE G it1) itx1) (pe : ∀ (X : Cx), Gd X W0 (blkSC c scope) cA G k → Snd X W0 cA (evE G elt) el) :
    Snd X W' cA (evE G (.lc2 own vs1 t kd its t1 it1 elt)) (.ListComp el [⟨tg, it, [], 0⟩, ⟨tg1, itx1, [], 0⟩] scope pos) ∧
    ∀ {i : Nat} {y : Str} {py spos : Pos}, X.N[i]? = some y → X.env.scope.names.lookup y = some .local → swapsWith (.ListComp el [⟨tg, it, [], 0⟩, ⟨tg1, itx1, [], 0⟩] scope pos) (some (.Name y py)) spos.line X.env = pure true →
      ∃ te, (∀ σ H Q, rdE X.K cA W' (evE G (.lc2 own vs1 t kd its t1 it1 elt)) σ H Q → te σ H Q) ∧ PS X (.Assign [.Name y py] (.ListComp el [⟨tg, it, [], 0⟩, ⟨tg1, itx1, [], 0⟩] scope pos) spos) (tAsg te (gName i)) := by
  obtain ⟨hk, hb⟩ := blk_ok g hB
  have rd : ∀ σ H Q, rdE X.K cA W' (evE G (.lc2 own vs1 t kd its t1 it1 elt)) σ H Q → tLc2 (rdI X.K cA W' (evEs G its) kd) (rdG X.K t) tYes (iOneS X.K (tHid (rdE X.K cA W0 (evE G it1)))) (rdG X.K t1) tYes (tHid (rdE X.K cA W0 (evE G elt))) (own.map (·.2)) vs1 σ H Q := fun σ H Q ⟨s, h, ρ, rep, rst, o⟩ => by
    have e : evE G (.lc2 own vs1 t kd its t1 it1 elt) s h = ((evEs G its s h).bind fun ws h => match itemsW kd ws with
      | some xs => (lcLoop2 (lcF2 G t (own.map (·.2)) vs1 it1 t1 elt s) xs [] h).bind fun ys h => .ok (.lst ys) h
      | none => .bad) := by
      rw [evE]
      unfold lcF2
      simp only [lcF_no]
      try rfl
    rw [e] at o
    exact lc2_rd hv hv1 rep rst o
  have a1 : ∀ (s : Shared) (H : Hp) (C : Addr) (cl : List (Str × Addr)) (fp : List Addr), PG (X.blk s H scope (compEnvC scope cl C X.env) fp) tg (rdG X.K t) := fun s H C cl fp => pg_T (g.blk hk s H C cl fp) hT
  have a1' : ∀ (s : Shared) (H : Hp) (C : Addr) (cl : List (Str × Addr)) (fp : List Addr), PG (X.blk s H scope (compEnvC scope cl C X.env) fp) tg1 (rdG X.K t1) := fun s H C cl fp => pg_T (g.blk hk s H C cl fp) hT1
  have ai : ∀ (s : Shared) (H : Hp) (C : Addr) (cl : List (Str × Addr)) (fp : List Addr), PI (X.blk s H scope (compEnvC scope cl C X.env) fp) tg1 itx1 (iOneS X.K (tHid (rdE X.K cA W0 (evE G it1)))) := fun s H C cl fp => pi_oneS (PE.hid (pi _ (g.blk hk s H C cl fp)).pe)
  have a2 : ∀ (s : Shared) (H : Hp) (C : Addr) (cl : List (Str × Addr)) (fp : List Addr), PTs (X.blk s H scope (compEnvC scope cl C X.env) fp) [] tYes := fun s H C cl fp => pts_nil
  have a3 : ∀ (s : Shared) (H : Hp) (C : Addr) (cl : List (Str × Addr)) (fp : List Addr), PE (X.blk s H scope (compEnvC scope cl C X.env) fp) el (tHid (rdE X.K cA W0 (evE G elt))) := fun s H C cl fp => PE.hid (pe _ (g.blk hk s H C cl fp)).pe
  have hvm : ∀ i ∈ vs1, i ∈ own.map (·.2) := fun i hi => by simpa using List.all_eq_true.mp hvs i hi
  exact ⟨Snd.pl (PE.weak (pe_lc2 g.calm g.hN hI hb hvm a1 a2 ai a1' a2 a3 (fold_of hn) (fun env x => fold_of hn1 x)) rd) rfl, fun hy hyl hsw => ⟨_, rd, ps_setLc2 g.calm g.hN hy hyl hsw hI hb hvm a1 a2 ai a1' a2 a3 (fold_of hn) (fun env x => fold_of hn1 x)⟩⟩
end
end MP
set_option Elab.async false
set_option linter.all false
set_option maxRecDepth 100000
set_option maxHeartbeats 4000000
/-! MP24: sorted(set(texts)). -/
namespace MP
open PySem PySem.Spec PyProof.Rows L2 PySem.Froz
section
variable {P : Program} {w : World} {A : Around} {E : Value → Shared → Prop} {s : Shared}
theorem plain_off {t : SetTable} : Ris (if t.plain = true then { t with plain := false } else t).place.toList ↔ Ris t.place.toList := by split <;> exact Iff.rfl
theorem plain_led {t : SetTable} : (if t.plain = true then { t with plain := false } else t).led = t.led := by split <;> rfl
theorem ris_tail {ep : Nat} {es1 : Array (Int × Value)} {t2 : SetTable} {wd : Bool} (r : Ris t2.place.toList) : Ris (tailTx ep es1 t2 wd).2.2.place.toList := by
  unfold tailTx
  split
  · exact relayAll_ris _ _ _
  · exact r
theorem led_tail {ep : Nat} {es1 : Array (Int × Value)} {t2 : SetTable} {wd : Bool} : (tailTx ep es1 t2 wd).2.2.led = t2.led := by
  unfold tailTx
  split
  · exact relayAll_led _ _ _
  · rfl
theorem ris_addTx {D : SD} (hv : Int) (v : Value) (r : Ris D.2.2.place.toList) : Ris (addTx hv v D).2.2.place.toList := ris_tail (plain_off.mpr (layNew_ris _ _ _ _ r))
theorem led_addTx {D : SD} (hv : Int) (v : Value) : (addTx hv v D).2.2.led = D.2.2.led := by
  unfold addTx
  rw [led_tail, plain_led, layNew_led]
/-- the payload of a set of the texts l that can be walked -/
structure TS (P : Program) (w : World) (D : SD) (l : List Str) : Prop where
  ok : TxOk P w D l
  nd : l.Nodup
  ris : Ris D.2.2.place.toList
  led : w.params.followText "set-order" = true ∨ D.2.2.led = true
theorem TS.add {D : SD} {l : List Str} (T : TS P w D l) {k : Str} (u : Tok) (h : k ∉ l) : TS P w (addTx (hashStr w k) (.str k u) D) (k :: l) :=
  ⟨add_ok u T.ok, List.nodup_cons.mpr ⟨h, T.nd⟩, ris_addTx _ _ T.ris, T.led.imp id fun z => by rw [led_addTx]; exact z⟩
/-- one text added, there or not -/
theorem add_txt {a : Addr} {D : SD} {l : List Str} {k : Str} {u : Tok} {Q : Bool → Shared → Prop} (ho : s.heap.get? a = some (sObj "set" D)) (T : TS P w D l) (hb : l.length + 1 < scanBound)
    (h : ∀ b h' D' l', Heap.SameBut a s.heap h' → h'.get? a = some (sObj "set" D') → TS P w D' l' → (∀ x, x ∈ l' ↔ x ∈ l ∨ x = k) → l'.length ≤ l.length + 1 → Q b { s with heap := h' }) : wpAny (model P w) A (setAddHashed a (.str k u) (hashStr w k)) Q E s := by
  by_cases hk : k ∈ l
  · obtain ⟨es, ep, t⟩ := D
    have hf : t.fits es.size = true := T.ok.fit
    have hel : ElemsOf (strKind P w) es.toList := T.ok.el
    have hsz : es.size = l.length := T.ok.sz
    obtain ⟨e0, he0, hp0⟩ := (T.ok.mem k).mp hk
    unfold setAddHashed setAddHashedIn
    refine wpAny_holding (wpAny_bind (wpAny_setState_of (es := es) (t := t) ho rfl hf ?_))
    dsimp only
    rw [byScan_of (show (Value.str k u).scannable = true from rfl) (by omega) hel]
    simp only [↓reduceIte]
    unfold setAddByScan
    refine wpAny_bind (wpAny_bind (wpAny_rule (wpAny_bind (wpAny_setScan_of (knd := strKind P w) (k := k) (is_str k u) ho rfl hf hel ?_))))
    cases hr : List.findIdx? (fun e => (strKind P w).is k e.2) es.toList with
    | none =>
      have c := List.findIdx?_eq_none_iff.mp hr e0 he0
      rw [hp0] at c; cases c
    | some j =>
      dsimp only
      exact wpAny_pure (wpAny_pure (h false s.heap (es, ep, t) l (Heap.SameBut.refl a s.heap) ho T (fun x => ⟨.inl, fun z => z.elim id fun q => q ▸ hk⟩) (by omega)))
  · refine add_x ho T.ok hk hb (h true _ _ (k :: l) (Heap.SameBut.update s.heap a _) (get_upd _ ho rfl) (T.add u hk) (fun x => ?_) (by simp))
    rw [List.mem_cons]
    exact Or.comm
end
section
variable {prog : Program} {w : World} {A : Around} {R : Result → Shared → Prop} {I : Addr} {fp wr : List Addr} {G : Array GenState → Array GenState → Prop} {n : Nat} {Pv : Nat → Value → Prop} {St : Nat → Shared → Prop}
theorem upd_loop (W : WalksS prog w A.in1 I fp wr G n Pv St) (a : Addr) (haf : a ∉ fp) (val : Nat → Str) (hval : ∀ i v, Pv i v → ∃ t, v = .str (val i) t) (hb : n + 1 < scanBound) :
    ∀ (k i : Nat) (s : Shared) (D : SD) (l : List Str), n - i = k → i ≤ n → St i s → s.heap.get? a = some (sObj "set" D) → TS prog w D l → l.length ≤ i → (∀ x, x ∈ l ↔ ∃ j, j < i ∧ val j = x) →
      (∀ s' D' l', Moved (a :: wr) G s s' → s'.heap.get? a = some (sObj "set" D') → TS prog w D' l' → l'.length ≤ n → (∀ x, x ∈ l' ↔ ∃ j, j < n ∧ val j = x) → R (.ok (.ret .none)) s') →
      codeAny (model prog w) A (.builtin "set.update.loop" ⟨[.ref a, .ref I], []⟩) R s := by
  have haw : a ∉ wr := fun h => haf (W.sub _ h)
  have hsub : ∀ b ∈ wr, b ∈ a :: wr := fun b hb => List.mem_cons_of_mem _ hb
  intro k
  induction k with
  | zero =>
    intro i s D l hk hi hst ho T hlen hm hR
    obtain rfl : i = n := by omega
    refine codeAny_builtin F.entry_set_update_loop ?_
    rw [Around.under_plainId F.plain_set_update_loop _]
    show wpAny _ A.in1 (pyNext (.ref I) >>= _) _ _ s
    refine wpAny_bind (W.done s _ _ hst fun s' mv => ?_)
    show wpAny _ A.in1 (ret Value.none) _ _ s'
    exact wpAny_pure (hR s' D l (mv.mono hsub) (mv.heap a _ haw ho) T hlen hm)
  | succ k ih =>
    intro i s D l hk hi hst ho T hlen hm hR
    have hlt : i < n := by omega
    refine codeAny_builtin F.entry_set_update_loop ?_
    rw [Around.under_plainId F.plain_set_update_loop _]
    show wpAny _ A.in1 (pyNext (.ref I) >>= _) _ _ s
    refine wpAny_bind (W.item i s _ _ hlt hst fun v s' hP hst' mv => ?_)
    obtain ⟨t, rfl⟩ := hval i v hP
    have ho' := mv.heap a _ haw ho
    show wpAny _ A.in1 (holding [Value.str (val i) t] (setAdd a (.str (val i) t)) >>= _) _ _ s'
    refine wpAny_bind (wpAny_holding ?_)
    unfold setAdd
    refine wpAny_holding (wpAny_bind ((strKind prog w).pyHash (k := val i) (is_str _ _) ?_))
    refine add_txt (s := { s' with toks := s'.toks + 1 }) ho' T (by omega) fun bb h' D' l' sb ho2 T' hm' hlen' => ?_
    refine wpAny_pure ⟨plainId_quiet F.plain_set_update_loop _, ih (i + 1) _ D' l' (by omega) hlt (W.frame _ s' _ _ hst' (Nat.le_succ _) fun b hb o e => ?_) ho2 T' (by omega) (fun x => ?_) fun s'' D'' l'' mv2 o2 T2 z2 m2 => ?_⟩
    · rw [sb.2 b (fun h : b = a => haf (by rw [← h]; exact hb))]; exact e
    · rw [hm' x, hm x]
      constructor
      · rintro (⟨j, hj, e⟩ | rfl)
        · exact ⟨j, by omega, e⟩
        · exact ⟨i, by omega, rfl⟩
      · rintro ⟨j, hj, e⟩
        by_cases q : j = i
        · subst q; exact .inr e.symm
        · exact .inl ⟨j, by omega, e⟩
    · refine hR s'' D'' l'' (Moved.trans W.gtrans ((mv.mono hsub).then_heap (Nat.le_succ _) fun b o hb e => ?_) mv2) o2 T2 z2 m2
      rw [sb.2 b (fun h : b = a => hb (by rw [h]; exact List.mem_cons_self))]; exact e
end
end MP
set_option Elab.async false
set_option linter.all false
set_option maxRecDepth 100000
set_option maxHeartbeats 4000000
/-! MP25: set(texts), sorted of it. -/
namespace MP
open PySem PySem.Spec PyProof.Rows L2 PySem.Froz
section
variable {prog : Program} {w : World} {A : Around} {E : Value → Shared → Prop} {s : Shared}
/-- the empty set as set.__new__ lays it -/
def newS (w : World) : Obj := { cls := .type "set", dict := none, data := .set #[] 0 (.fresh 0 0 (!w.params.followText "set-order")) }
theorem newS_eq : newS w = sObj "set" (#[], 0, .fresh 0 0 (!w.params.followText "set-order")) := rfl
theorem ts_new : TS prog w (#[], 0, .fresh 0 0 (!w.params.followText "set-order")) [] :=
  ⟨TxOk.nil rfl, List.nodup_nil, List.Pairwise.nil, by
    show _ ∨ (!w.params.followText "set-order") = true
    cases w.params.followText "set-order"
    · exact .inr rfl
    · exact .inl rfl⟩
theorem new_set1 (a : Value) {Q₁ : Value → Shared → Prop} (h : Q₁ (.ref s.heap.objs.size) { s with heap := s.heap.push (newS w) }) : codeAny (model prog w) A (.call (.builtin "set.__new__") ⟨[.type "set", a], []⟩) (wants Q₁ E) s := by
  refine codeAny_of_tree ?_
  show wpAny _ A.in1 (do checkBuiltinCall "set.__new__" ⟨[.type "set", a], []⟩; again (.builtin "set.__new__" ⟨[.type "set", a], []⟩)) _ _ s
  refine wpAny_bind (wpAny_of_eq (PySem.F.newCall_set_1 a) (wpAny_pure ⟨plainId_quiet F.plain_set_new _, codeAny_builtin F.entry_set_new ?_⟩))
  rw [Around.under_plainId F.plain_set_new _]
  unfold Builtin.«set.__new__» Builtin.Frozenset.newClass
  have hsub := sub_set_self
  obtain ⟨hp, g, d, tk, os⟩ := s
  dsimp only
  wp_walk
  refine wpAny_askSetting (wpAny_pure ?_)
  dsimp only
  simp only [newObj]
  refine wpAny_bind (wpAny_alloc (wpAny_pure ?_))
  exact wpAny_pure h
/-- set(xs) of texts -/
theorem set_txts {l : Addr} {items : Array Value} {xs : List Str} {Q : Value → Shared → Prop} (hh : A.handled = none) (hl : s.heap.IsList l items) (hi : Vals (xs.map V.str) items.toList) (hb : items.size + 1 < scanBound)
    (h : ∀ (h' : Heap) (tk : Nat) (D : SD) (l' : List Str), h'.get? s.heap.objs.size = some (sObj "set" D) → TS prog w D l' → l'.length ≤ xs.length → (∀ x, x ∈ l' ↔ x ∈ xs) → (∀ b o, s.heap.get? b = some o → h'.get? b = some o) → Q (.ref s.heap.objs.size) { s with heap := h', toks := tk }) :
    wpAny (model prog w) A (call (.type "set") [.ref l]) Q E s := by
  have hlen : xs.length = items.size := by
    have := hi.length
    rw [List.length_map, Array.length_toList] at this
    exact this
  obtain ⟨c, tl, hmro⟩ := F.called_set.mro
  have hmade := F.called_set.made
  have hsub := F.called_set.sub
  refine wpAny_call (codeAny_of_tree ?_)
  show wpAny _ _ (callAny (.type "set") _) _ _ _
  refine wpAny_pure ⟨Code.quiet_builtin _ (by decide +kernel), codeAny_builtin F.entry_type_call ?_⟩
  rw [Around.under_plain (weight_type_call_type "set" [.ref l] []) rfl]
  have h1 := F.called_set.notType
  have h2 := F.called_set.canCreate
  have hct := PySem.F.typeCall_set_1 (.ref l)
  repeat (any_goals (first | assumption | wp_step))
  refine codeAny_mono (new_set1 (w := w) (.ref l) (E := E) (Q₁ := fun obj s₁ => obj = .ref s.heap.objs.size ∧ s₁ = { s with heap := s.heap.push (newS w) }) ⟨rfl, rfl⟩) fun r s₁ hr => ?_
  cases r with
  | error e => exact hr
  | ok fl =>
    cases fl with
    | ret obj =>
      obtain ⟨rfl, rfl⟩ := hr
      have hS : (s.heap.push (newS w)).get? s.heap.objs.size = some (newS w) := Heap.get?_push_size _ rfl
      have hT : Shared.TypeIs { s with heap := s.heap.push (newS w) } (.ref s.heap.objs.size) "set" := ⟨_, hS, rfl⟩
      have hli := F.called_set.init.lookup
      have hbi := F.called_set.init.bind (.ref s.heap.objs.size)
      repeat (any_goals (first | assumption | wp_step))
      refine codeAny_mono (codeAny_call_builtin (R := wants (fun r s₂ => r = .none ∧ ∃ h' tk D l', s₂ = { s with heap := h', toks := tk } ∧ h'.get? s.heap.objs.size = some (sObj "set" D) ∧ TS prog w D l' ∧ l'.length ≤ xs.length ∧ (∀ x, x ∈ l' ↔ x ∈ xs) ∧
          (∀ b o, s.heap.get? b = some o → h'.get? b = some o)) E) F.called_set.init.plain F.entry_set_init (check_set_init_1 hT ?_)) fun r₂ s₂ hr₂ => ?_
      · obtain ⟨ol, hol, hcl, nl, hdl⟩ := hl
        obtain ⟨ocls, odict, odata, oslots⟩ := ol
        simp only at hcl hdl
        subst hcl; subst hdl
        have hol' : (s.heap.push (newS w)).get? l = some { cls := .type "list", dict := odict, data := .seq items nl, slots := oslots } := Heap.get?_push_of_some _ hol
        have hsls := PySem.F.sub_list_set
        have hslf := PySem.F.sub_list_frozenset
        have hne : (Value.type "list" == Value.type "dict") = false := by decide
        have hl1 : (s.heap.push (newS w)).IsList l items := ⟨_, hol', rfl, nl, rfl⟩
        unfold Builtin.«set.__init__» noKeywords Builtin.Frozenset.updateFrom
        generalize hPI : pyIter = PI
        wp_walk
        subst hPI
        refine wpAny_pyIter_list hl1 (wpAny_bind (wpAny_runValue ?_))
        have hlS : l < s.heap.objs.size := Heap.lt_size hol
        have hh3 : A.in1.in1.in1.handled = none := by simp [hh]
        have hneI : l ≠ (s.heap.push (newS w)).objs.size := by rw [Heap.size_push]; exact Nat.ne_of_lt (Nat.lt_succ_of_lt hlS)
        have hSf : s.heap.objs.size ∉ [(s.heap.push (newS w)).objs.size, l] := by
          rw [Heap.size_push]
          intro z
          simp only [List.mem_cons, List.not_mem_nil, or_false] at z
          exact z.elim (Nat.ne_of_lt (Nat.lt_succ_self _)) (Nat.ne_of_gt hlS)
        have hval : ∀ (i : Nat) (v : Value), items[i]? = some v → ∃ t, v = .str ((fun i => xs.getD i ⟨#[]⟩) i) t := fun i v hv => by
          have hlt : i < xs.length := by
            have := (Array.getElem?_eq_some_iff.mp hv).1
            omega
          obtain ⟨u, hu, t, e⟩ := hi.get (i := i) (x := V.str xs[i]) (by simp [hlt])
          rw [Array.getElem?_toList, hv] at hu
          cases hu
          exact ⟨t, by rw [e]; simp [List.getD, hlt]⟩
        refine upd_loop ((Walks.list hh3 _ l hneI items).toS) s.heap.objs.size hSf (fun i => xs.getD i ⟨#[]⟩) hval hb (items.size - 0) 0 _ (#[], 0, .fresh 0 0 (!w.params.followText "set-order")) [] (by omega) (Nat.zero_le _) ⟨⟨_, Heap.get?_push_size _ rfl, rfl, rfl⟩, (hl1.push _)⟩
          (Heap.get?_push_of_some _ hS) ts_new (Nat.le_refl _) (fun x => ⟨fun z => (by cases z), fun ⟨j, hj, _⟩ => absurd hj (Nat.not_lt_zero _)⟩) fun s' D' l' mv o' T' z' m' => ?_
        obtain ⟨h', g', d', tk', os'⟩ := s'
        obtain rfl : g' = s.gens := mv.gens
        obtain rfl : d' = s.drawn := mv.drawn
        obtain rfl : os' = s.os := mv.os
        show wpAny _ _ _ _ _ _
        refine wpAny_pure ?_
        show wpAny _ _ (ret Value.none) _ _ _
        refine wpAny_pure ⟨rfl, h', tk', D', l', rfl, o', T', by omega, fun x => ?_, fun b o e => ?_⟩
        · rw [m' x]
          constructor
          · rintro ⟨j, hj, e⟩
            have hj' : j < xs.length := by omega
            simp only [List.getD, List.getElem?_eq_getElem hj', Option.getD_some] at e
            exact e ▸ List.getElem_mem hj'
          · intro hx
            obtain ⟨j, hj, e⟩ := List.getElem_of_mem hx
            exact ⟨j, by omega, by simp [List.getD, List.getElem?_eq_getElem hj, e]⟩
        · have hbl := Heap.lt_size e
          refine mv.heap b o ?_ (Heap.get?_push_of_some _ (Heap.get?_push_of_some _ e))
          rw [Heap.size_push]
          intro z
          simp only [List.mem_cons, List.not_mem_nil, or_false] at z
          exact z.elim (Nat.ne_of_lt hbl) (Nat.ne_of_lt (Nat.lt_succ_of_lt hbl))
      · cases r₂ with
        | error e => exact hr₂
        | ok fl₂ =>
          cases fl₂ with
          | ret r =>
            obtain ⟨rfl, h', tk, D, l', rfl, a1, a2, a0, a3, a4⟩ := hr₂
            repeat (any_goals (first | assumption | wp_step))
            exact h _ _ _ _ a1 a2 a0 a3 a4
          | _ => exact hr₂.elim
    | _ => exact hr.elim
end
end MP
set_option Elab.async false
set_option linter.all false
set_option maxRecDepth 100000
set_option maxHeartbeats 4000000
/-! MP26: sorted of a set of texts; the expression. -/
namespace MP
open PySem PySem.Spec PyProof.Rows L2 PySem.Froz
theorem str_shape {P : Program} {w : World} {k : Str} {v : Value} (h : (strKind P w).is k v = true) : isStr v k := by
  have h : Value.isStrOf k v = true := h
  obtain ⟨t, e⟩ := Value.isStrOf_shape (x := k) (v := v) h
  exact ⟨t, e⟩
theorem isStr_one {v : Value} {a b : Str} (h : isStr v a) (h' : isStr v b) : a = b := by
  obtain ⟨t, rfl⟩ := h
  obtain ⟨t', e⟩ := h'
  cases e; rfl
theorem each_of {R : Value → Str → Prop} : ∀ {vs : List Value}, (∀ v ∈ vs, ∃ k, R v k) → ∃ bs, PySem.W.EachIs R vs bs
  | [], _ => ⟨[], .nil⟩
  | v :: vs, h => by
    obtain ⟨k, hk⟩ := h v (by simp)
    obtain ⟨bs, hb⟩ := each_of (vs := vs) fun u hu => h u (by simp [hu])
    exact ⟨k :: bs, .cons hk hb⟩
theorem each_back {R : Value → Str → Prop} : ∀ {vs : List Value} {bs : List Str}, PySem.W.EachIs R vs bs → ∀ k ∈ bs, ∃ v ∈ vs, R v k
  | _, _, .nil, _, h => by cases h
  | _, _, .cons r t, k, h => by
    rcases List.mem_cons.mp h with rfl | h
    · exact ⟨_, by simp, r⟩
    · obtain ⟨v, h1, h2⟩ := each_back t k h
      exact ⟨v, by simp [h1], h2⟩
theorem each_in : ∀ {vs : List Value} {bs : List Str}, PySem.W.EachIs isStr vs bs → ∀ v ∈ vs, ∀ k, isStr v k → k ∈ bs
  | _, _, .nil, _, h, _, _ => by cases h
  | _, _, .cons r t, v, h, k, hk => by
    rcases List.mem_cons.mp h with rfl | h
    · rw [isStr_one hk r]; simp
    · exact List.mem_cons_of_mem _ (each_in t v h k hk)
theorem sub_len : ∀ {a b : List Str}, a.Nodup → (∀ x ∈ a, x ∈ b) → a.length ≤ b.length := by
  intro a
  induction a with
  | nil => intro b _ _; simp
  | cons x a ih =>
    intro b nd h
    rw [List.nodup_cons] at nd
    obtain ⟨p, q, rfl⟩ := List.append_of_mem (h x (by simp))
    have := ih (b := p ++ q) nd.2 fun y hy => by
      have := h y (by simp [hy])
      simp only [List.mem_append, List.mem_cons] at this ⊢
      rcases this with z | rfl | z
      · exact .inl z
      · exact absurd hy nd.1
      · exact .inr z
    simp at this ⊢
    omega
/-- as many, and all of them there: no doubles -/
theorem nodup_of : ∀ {a b : List Str}, a.Nodup → (∀ x ∈ a, x ∈ b) → b.length ≤ a.length → b.Nodup := by
  intro a
  induction a with
  | nil => intro b _ _ h; rw [List.length_eq_zero_iff.mp (Nat.le_zero.mp h)]; exact List.nodup_nil
  | cons x a ih =>
    intro b nd h hl
    rw [List.nodup_cons] at nd
    obtain ⟨p, q, rfl⟩ := List.append_of_mem (h x (by simp))
    have hx : ∀ y ∈ a, y ∈ p ++ q := fun y hy => by
      have := h y (by simp [hy])
      simp only [List.mem_append, List.mem_cons] at this ⊢
      rcases this with z | rfl | z
      · exact .inl z
      · exact absurd hy nd.1
      · exact .inr z
    have ih' := ih (b := p ++ q) nd.2 hx (by simp at hl ⊢; omega)
    have hxn : x ∉ p ++ q := fun hm => by
      -- x among the rest: then the rest of a would be short
      obtain ⟨p2, q2, e⟩ := List.append_of_mem hm
      have hx2 : ∀ y ∈ a, y ∈ p2 ++ q2 := fun y hy => by
        have := hx y hy
        rw [e] at this
        simp only [List.mem_append, List.mem_cons] at this ⊢
        rcases this with z | rfl | z
        · exact .inl z
        · exact absurd hy nd.1
        · exact .inr z
      have l1 : (p2 ++ q2).length + 1 = (p ++ q).length := by rw [e]; simp; omega
      have l2 := sub_len nd.2 hx2
      simp at hl l1 l2
      omega
    have := (List.perm_middle (l₁ := p) (a := x) (l₂ := q)).nodup_iff
    exact this.mpr (List.nodup_cons.mpr ⟨hxn, ih'⟩)
/-- a set of the texts xs, tracked -/
def SetTO (P : Program) (w : World) (a : Addr) (xs : List Str) : HO := .ext fun h => ∃ D l, h.get? a = some (sObj "set" D) ∧ TS P w D l ∧ l.length < scanBound ∧ ∀ x, x ∈ l ↔ x ∈ xs
section
variable {X : Cx}
def rSetT (X : Cx) : List V → Hp → VK → Prop := fun vs H Q => ∃ (a : Addr) (xs : List Str), vs = [V.ref a] ∧ SqL X.K H a (xs.map V.str) ∧ xs.length + 1 < scanBound ∧ ∀ p : Addr, H p = none → Q (.ref p) (upd H p (SetTO X.prog X.w p xs))
theorem call_setT (hc : X.calm = true) : CallR X (.type "set") (rSetT X) := by
  intro pins s σ H vs us Q I r hh
  obtain ⟨a, xs, rfl, hs, hb, q⟩ := hh
  obtain ⟨its, rv, hl, hz⟩ := I.list hs
  rw [Vals.ref1 r]
  have hlen := rv.length
  rw [List.length_map] at hlen
  refine set_txts (I.ok.hd hc) hl.isList (xs := xs) rv (by rw [List.size_toArray]; omega) fun h' tk D l' ho T hz' hm kp => ?_
  exact ⟨.ref _, _, I.laid (a := s.heap.objs.size) (o := SetTO X.prog X.w s.heap.objs.size xs) (t' := tk) kp (Nat.le_refl _) ⟨⟨D, l', ho, T, by omega, hm⟩, ⟨_, ho⟩, fun h1 h2 ⟨D, l, e, T, m⟩ k => ⟨D, l, k _ e, T, m⟩⟩, rfl, q _ (I.hok.fresh (Nat.le_refl _))⟩
def rSortT (X : Cx) : List V → Hp → VK → Prop := fun vs H Q => ∃ (a : Addr) (xs : List Str), vs = [V.ref a] ∧ H a = some (SetTO X.prog X.w a xs) ∧ ∀ p : Addr, H p = none → Q (.ref p) (upd H p (.lst ((xs.eraseDups.mergeSort strLe).map V.str)))
theorem call_sortT (hc : X.calm = true) (hu : X.A.units + 65 < cLine) : CallR X (.builtin "sorted") (rSortT X) := by
  intro pins s σ H vs us Q I r hh
  obtain ⟨a, xs, rfl, hs, q⟩ := hh
  rw [Vals.ref1 r]
  obtain ⟨⟨D, l, ho, T, hz, hm⟩, _, _⟩ := I.hok a _ hs
  obtain ⟨es, ep, t⟩ := D
  have hsz : es.size = l.length := T.ok.sz
  refine Calls.call_function_entry kind_sorted plain_sorted entry_sorted (args_sorted1 _) ?_
  unfold Builtin.«sorted»
  refine wpAny_bind (m := checkCount "sorted" 1 1 _) (wpAny_pure ?_)
  refine wpAny_bind (collect_set (A := X.A.in1) (I.ok.hd hc) ⟨_, ho, rfl, rfl⟩ T.ok.fit (show es.size < scanBound by omega) T.ris T.led fun s1 vs k1 hz1 g1 o1 pm => ?_)
  have hvl : vs.length = l.length := by rw [pm.length_eq, List.length_map, Array.length_toList]; exact hsz
  have hb3 : scanBound ≤ sizeLine := by rw [sizeLine_eq]; decide
  -- the texts as they came
  have ht : ∀ v ∈ vs, ∃ k, k ∈ l ∧ isStr v k := fun v hv => by
    obtain ⟨e, he, rfl⟩ := List.mem_map.mp (pm.mem_iff.mp hv)
    obtain ⟨⟨k, hk, _⟩, _⟩ := T.ok.el e he
    refine ⟨k, (T.ok.mem k).mpr ⟨e, he, hk⟩, ?_⟩
    exact str_shape hk
  have hl2 : ∀ k ∈ l, ∃ v ∈ vs, isStr v k := fun k hk => by
    obtain ⟨e, he, hi⟩ := (T.ok.mem k).mp hk
    exact ⟨e.2, pm.mem_iff.mpr (List.mem_map.mpr ⟨e, he, rfl⟩), str_shape hi⟩
  obtain ⟨bs, hbs⟩ : ∃ bs : List Str, PySem.W.EachIs isStr vs bs := each_of fun v hv => let ⟨k, _, h⟩ := ht v hv; ⟨k, h⟩
  have hbl : bs.length = vs.length := hbs.length.symm
  have hmb : ∀ k, k ∈ bs ↔ k ∈ l := fun k => by
    constructor
    · intro h
      obtain ⟨v, hv, hs2⟩ := each_back hbs k h
      obtain ⟨k', h1, h2⟩ := ht v hv
      rw [isStr_one hs2 h2]; exact h1
    · intro h
      obtain ⟨v, hv, h2⟩ := hl2 k h
      exact each_in hbs v hv k h2
  have hnb : bs.Nodup := nodup_of (a := l) T.nd (fun k h => (hmb k).mpr h) (by omega)
  refine wpAny_bind (wpAny_newList ?_ (by omega))
  have hoL : (s1.heap.push (seqObj "list" vs.toArray 0)).get? s1.heap.objs.size = some (seqObj "list" vs.toArray 0) := Heap.get?_push_size _ rfl
  have hal : PySem.W.AllAlike (bs.map PyData.str) := fun d hd d' hd' => by
    obtain ⟨x, _, rfl⟩ := List.mem_map.mp hd
    obtain ⟨y, _, rfl⟩ := List.mem_map.mp hd'
    simp [PySem.W.alike]
  have hk : PySem.W.Sortable (bs.map PyData.str) := .inr fun d hd => by
    obtain ⟨x, _, rfl⟩ := List.mem_map.mp hd
    exact ⟨fun z => (nomatch z), fun _ z => (nomatch z)⟩
  refine wpAny_bind (wpAny_holding (PySem.W.list_sort_data (enc := PyData.str) (R := isStr) (bs := bs) hoL hbs (hbs.mono fun v b ⟨t, hv⟩ => ⟨[], by rw [hv]; exact Reads.str b t, by simp⟩) hal hk (by omega)
    (fun b _ => by
      show X.A.units + 1 + 1 + (PyData.str b).depth < cLine
      simp only [PyData.depth]; omega) fun out hol he => ?_))
  have hle : PySem.W.dataLe false (fun b : Str => PyData.str b) = strLe := PySem.W.dataLe_str (fun b : Str => b)
  have he2 : PySem.W.EachIs isStr out (bs.mergeSort strLe) := by rw [← hle]; exact he
  have hsame : bs.mergeSort strLe = xs.eraseDups.mergeSort strLe := sort_eq hnb (nodup_eraseDups xs) fun x => by rw [hmb, hm, List.mem_eraseDups]
  rw [hsame] at he2
  obtain ⟨c, hcc⟩ := sortedHeap_at (vs := vs) (out := List.toArray out) hoL
  have kp : ∀ b o, s.heap.get? b = some o → (sortedHeap (s1.heap.push (seqObj "list" vs.toArray 0)) s1.heap.objs.size vs (List.toArray out)).get? b = some o := fun b u e => by
    have q1 := k1 b u e
    have hlt := Heap.lt_size q1
    rw [sortedHeap_old (Nat.ne_of_lt hlt) (by rw [size_push']; exact Nat.lt_succ_of_lt hlt)]
    exact Heap.get?_push_of_some _ q1
  have hn : H s1.heap.objs.size = none := I.hok.fresh hz1
  have hlen : ((xs.eraseDups.mergeSort strLe).map V.str).length ≤ sizeLine := by
    have := he2.length
    rw [List.length_map, ← this, hol]
    omega
  have J : Inv X pins σ (upd H s1.heap.objs.size (.lst ((xs.eraseDups.mergeSort strLe).map V.str))) { s with heap := sortedHeap (s1.heap.push (seqObj "list" vs.toArray 0)) s1.heap.objs.size vs (List.toArray out), gens := s1.gens, drawn := s1.drawn, toks := s1.toks } :=
    I.call (ch := []) (Un.laid kp hz1 hn) (I.hok.laid kp hz1 ⟨hlen, out, c, vals_each he2, hcc⟩) (by rw [g1]; exact I.bare) (fun _ z => nomatch z)
  obtain ⟨hh1, gg1, dd1, tt1, oo1⟩ := s1
  obtain rfl : oo1 = s.os := o1
  exact wpAny_pure ⟨_, rfl, .ref _, _, J, rfl, q _ hn⟩
end
end MP
set_option Elab.async false
set_option linter.all false
set_option maxRecDepth 100000
set_option maxHeartbeats 4000000
/-! MP27: sorted of alike data; the two expressions. -/
namespace MP
open PySem PySem.Spec PyProof.Rows L2 PySem.Froz
section
variable {X : Cx} {W' : WX} {c : SC} {cA : Str → Addr} {G : Gam} {k : Nat} {x : Expr} {pos p1 p2 p3 : Pos} {a : E}
def isRW (K : PySem.W.Frag) (H : Hp) (ρ : Rho) (u : Value) (w : W) : Prop := ∃ v, RelV v u ∧ RW K H ρ w v
theorem each_rw {K : PySem.W.Frag} {H : Hp} {ρ : Rho} : ∀ {ws : List W} {vs : List V} {us : List Value}, RWs K H ρ ws vs → Vals vs us → PySem.W.EachIs (isRW K H ρ) us ws
  | _, _, _, .nil, .nil => .nil
  | _, _, _, .cons r t, .cons q s => .cons ⟨_, q, r⟩ (each_rw t s)
theorem rw_each {K : PySem.W.Frag} {H : Hp} {ρ : Rho} : ∀ {us : List Value} {ws : List W}, PySem.W.EachIs (isRW K H ρ) us ws → ∃ vs, Vals vs us ∧ RWs K H ρ ws vs
  | _, _, .nil => ⟨[], .nil, .nil⟩
  | _, _, .cons ⟨v, q, r⟩ t => by
    obtain ⟨vs, h1, h2⟩ := rw_each t
    exact ⟨v :: vs, .cons q h1, .cons r h2⟩
def rSortW (K : PySem.W.Frag) : List V → Hp → VK → Prop := fun vs H Q => ∃ (b : Addr) (ws : List W) (vl : List V) (ρ : Rho), vs = [V.ref b] ∧ SqL K H b vl ∧ RWs K H ρ ws vl ∧ strsOf ws = none ∧ sortOk ws = true ∧
  ∀ (p : Addr) (vl' : List V), H p = none → RWs K H ρ (sortW ws) vl' → Q (.ref p) (upd H p (.lst vl'))
theorem mem_ds : ∀ {ws : List W} {w : W}, w ∈ ws → w.d ∈ W.ds ws := fun {ws w} h => by rw [W.ds_eq]; exact List.mem_map.mpr ⟨w, h, rfl⟩
theorem call_sortW (hu : X.A.units + 65 < cLine) : CallR X (.builtin "sorted") (rSortW X.K) := by
  intro pins s σ H vs us Q I r hh
  obtain ⟨b, ws, vl, ρ, rfl, hs, rws, hn, hok, q⟩ := hh
  obtain ⟨its, rv, hl, hz⟩ := I.list hs
  rw [Vals.ref1 r]
  unfold sortOk at hok
  rw [hn] at hok
  simp only [Option.isSome_none, Bool.false_or, Bool.and_eq_true] at hok
  obtain ⟨k1, k2, k3⟩ := hok
  have k3' : ∀ w ∈ ws, w.d.canLay0 = true ∧ w.d.depth ≤ 60 := fun w hw => by
    have := List.all_eq_true.mp k3 _ (mem_ds hw)
    rw [Bool.and_eq_true] at this
    exact ⟨this.1, of_decide_eq_true this.2⟩
  have e := each_rw rws rv
  have er : PySem.W.EachIs (fun v w => ∃ as, Reads s.heap v (W.d w) as) its ws := (PySem.W.each_mem e).mono fun u w ⟨⟨v, q1, q2⟩, hw⟩ => Dp.reads I _ _ _ (q2.dp (k3' w hw).1) q1
  have hal : PySem.W.AllAlike (ws.map W.d) := fun d hd d' hd' => by
    rw [← W.ds_eq] at hd hd'
    exact List.all_eq_true.mp (List.all_eq_true.mp k1 d hd) d' hd'
  have hk : PySem.W.Sortable (ws.map W.d) := by
    rw [← W.ds_eq]
    rw [Bool.or_eq_true] at k2
    rcases k2 with k2 | k2
    · refine .inl fun d hd => ?_
      have := List.all_eq_true.mp k2 d hd
      cases d with
      | tuple ds => cases ds with
        | nil => cases this
        | cons y r => exact ⟨y, r, rfl⟩
      | _ => cases this
    · refine .inr fun d hd => ?_
      have := List.all_eq_true.mp k2 d hd
      cases d <;> first | (cases this; done) | exact ⟨fun z => (nomatch z), fun _ z => (nomatch z)⟩
  have hlen : ws.length = vl.length := rws.length
  refine PySem.W.sorted_data (enc := W.d) (R := isRW X.K H ρ) (bs := ws) hl.isList e er hal hk (by omega) (fun w hw => by have := (k3' w hw).2; omega) fun out ho he => ?_
  have es : sortW ws = ws.mergeSort (PySem.W.dataLe false W.d) := by unfold sortW; rw [hn]
  obtain ⟨vl', hv, hr⟩ := rw_each he
  rw [← es] at hr
  obtain ⟨ep, he'⟩ := PyProof.Rows.sortedAll_at s.heap its (List.toArray out)
  have hlen2 : vl'.length ≤ sizeLine := by
    rw [hv.length, ho]; omega
  exact ⟨.ref _, upd H (s.heap.objs.size + 1) (.lst vl'), I.laid (t' := s.toks) (fun _ _ => PyProof.Rows.sortedAll_old) (Nat.le_succ _) ⟨hlen2, out, ep, hv, he'⟩, rfl, q _ _ (I.hok.fresh (Nat.le_succ _)) hr⟩
theorem Fin.ext {K : PySem.W.Frag} {H H1 : Hp} {ρ ρ1 : Rho} {h : Hq} {z : W} {Q : VK} (f : Fin K cA ρ h H z Q) (e : Ext H ρ H1 ρ1) : Fin K cA ρ1 h H1 z Q := fun H' ρ' r e' => f H' ρ' r (e.trans e')
theorem s_sset (g : Gd X W' c cA G k) (h1 : glB c.sc "sorted" = true) (h2 : glB c.sc "set" = true) (hn : nst x = true) (p : PE X x (rdE X.K cA W' (evE G a))) : Snd X W' cA (evE G (.sset a)) (.Call (.Name "sorted" p1) [.Call (.Name "set" p2) [x] [] p3] [] pos) := by
  have hpl : ∀ {q : Pos}, (backTo q (starEach ([] : List Expr) X.env)).any (·.1) = false := rfl
  have q1 := pe_callTy (pos := p3) (p := p2) (call_setT g.calm) (g.gl h2) (g.ok.blt _ (by decide)) PyProof.Rows.boot_set (pa_cons p pa_nil (star_cons hn)) (by decide) (by decide) (star_cons hn) hpl
  have q2 := pe_callB (pos := pos) (p := p1) (call_sortT g.calm g.uni) (g.gl h1) (g.ok.blt _ (by decide)) PyProof.Rows.boot_sorted (pa_cons q1 pa_nil rfl) (by decide) (by decide) rfl hpl
  refine Snd.pl (PE.weak q2 fun σ H Q ⟨s, h, ρ, rep, rst, oo⟩ => ?_) rfl
  unfold evE at oo
  refine rd1 rep rst oo fun w h1 H1 ρ1 v rep1 ext st rw o1 => ?_
  obtain ⟨z, e, o2⟩ := o1.opt
  unfold ssetW at e
  split at e
  · rename_i ws ew
    cases es : strsOf ws with
    | none => rw [es] at e; cases e
    | some ss =>
      rw [es] at e
      simp only [Option.bind_some] at e
      split at e
      · rename_i hz
        cases e
        obtain ⟨b, vs, rfl, hp, rs⟩ := vw_lst ew rep1 rw
        have ev := strs_of es rs
        subst ev
        have hsb : scanBound = 4096 := by decide
        refine ⟨b, ss, rfl, SqL.of hp, by omega, fun p hp1 => ?_⟩
        refine ⟨p, ss, rfl, upd_same, fun p' hp' => ?_⟩
        have ef := Ext.fresh (ρ := ρ1) (o := SetTO X.prog X.w p ss) hp1
        exact new_lst (rep1.fresh hp1) (rws_strs _) hp' (Fin.ext (show Fin X.K cA ρ1 h1 H1 _ Q from o2) ef)
      · cases e
  · cases e
theorem s_srt (g : Gd X W' c cA G k) {mu : Bool} (h1 : glB c.sc "sorted" = true) (hn : nst x = true) (p : PE X x (rdE X.K cA W' (evE G a))) : Snd X W' cA (evE G (.srt mu a)) (.Call (.Name "sorted" p1) [x] [] pos) := by
  have hpl : ∀ {q : Pos}, (backTo q (starEach ([] : List Expr) X.env)).any (·.1) = false := rfl
  have hC := CallR.or (cr_sortStr g.uni) (call_sortW g.uni)
  have q2 := pe_callB (pos := pos) (p := p1) hC (g.gl h1) (g.ok.blt _ (by decide)) PyProof.Rows.boot_sorted (pa_cons p pa_nil (star_cons hn)) (by decide) (by decide) (star_cons hn) hpl
  refine Snd.pl (PE.weak q2 fun σ H Q ⟨s, h, ρ, rep, rst, oo⟩ => ?_) rfl
  unfold evE at oo
  refine rd1 rep rst oo fun w h1 H1 ρ1 v rep1 ext st rw o1 => ?_
  split at o1
  · rename_i ws ew
    split at o1
    · rename_i hok
      obtain ⟨b, vs, rfl, hp, rs⟩ := vw_lst ew rep1 rw
      cases es : strsOf ws with
      | none =>
        refine .inr ⟨b, ws, vs, ρ1, rfl, SqL.of hp, rs, es, hok, fun p vl' hp1 r' => ?_⟩
        cases mu with
        | true => exact new_mlst rep1 r' hp1 o1
        | false => exact new_lst rep1 r' hp1 o1
      | some ss =>
        have ev := strs_of es rs
        subst ev
        have e2 : sortW ws = (ss.mergeSort strLe).map W.str := by unfold sortW; rw [es]
        rw [e2] at o1
        refine .inl ⟨b, ss, rfl, SqL.of hp, fun p hp1 => ?_⟩
        cases mu with
        | true => exact new_mlst rep1 (rws_strs _) hp1 o1
        | false => exact new_lst rep1 (rws_strs _) hp1 o1
    · exact o1.elim
  · exact o1.elim
end
end MP
set_option Elab.async false
set_option linter.all false
set_option maxRecDepth 100000
set_option maxHeartbeats 4000000
/-! MP19: every expression that the checker lets through. -/
namespace MP
open PySem PySem.Spec PyProof.Rows L2
/-- what is claimed of an expression -/
def SE (cA : Str → Addr) (G : Gam) (k : Nat) (e : E) : Prop := ∀ (X : Cx) (W' : WX) (c : SC) (x : Expr), Gd X W' c cA G k → okE c e x = true → Snd X W' cA (evE G e) x
def SEo (cA : Str → Addr) (G : Gam) (k : Nat) : Eo → Prop
  | .no => True
  | .yes e => SE cA G k e
section
variable {cA : Str → Addr} {G : Gam} {k : Nat}
theorem all_imp {P Q : E → Prop} (f : ∀ e, P e → Q e) : ∀ {es : Es}, Es.All P es → Es.All Q es
  | .nil, _ => trivial
  | .cons e es, ⟨a, b⟩ => ⟨f e a, all_imp f b⟩
theorem pes_of {X : Cx} {W' : WX} {c : SC} (g : Gd X W' c cA G k) {es : Es} {xs : List Expr} (h : Es.All (SE cA G k) es) (ok : okEs c es xs = true) : PEs X W' cA G es xs :=
  PEs.of_all (all_imp (fun e he y hy => he X W' c y g hy) h) ok
theorem po_of {X : Cx} {W' : WX} {c : SC} (g : Gd X W' c cA G k) {o : Eo} {x : Option Expr} (h : SEo cA G k o) (ok : okEo c o x = true) : PO X x (rdO X.K cA W' (evEo G o)) := by
  cases o with
  | no =>
    unfold okEo at ok
    split at ok
    · exact po_no
    · cases ok
  | yes e =>
    unfold okEo at ok
    split at ok
    · exact po_yes (h X W' c _ g ok).pe
    · cases ok
mutual
theorem sE : ∀ e : E, SE cA G k e
  | .cst w => fun X W' c x g h => by
    unfold okE at h
    split at h
    · exact (show Snd X W' cA (evE G (.cst w)) _ from by
        have := s_cst (X := X) (W' := W') (cA := cA) (pos := by assumption) (j := by assumption) h
        have e : evE G (.cst w) = fun _ h => .ok w h := by funext s h; rw [evE]
        rw [e]; exact this)
    · cases h
  | .var i => fun X W' c x g h => by
    unfold okE at h
    split at h
    · exact s_var g h
    · cases h
  | .glb a => fun X W' c x g h => by
    unfold okE at h
    exact s_glb g h
  | .tup es => fun X W' c x g h => by
    unfold okE at h
    split at h
    · rw [Bool.and_eq_true] at h
      exact s_tup (pes_of g (sEs es) h.1).pa h.2
    · cases h
  | .lst es => fun X W' c x g h => by
    unfold okE at h
    split at h
    · rw [Bool.and_eq_true] at h
      exact s_lst (pes_of g (sEs es) h.1).pa h.2
    · cases h
  | .mlst es => fun X W' c x g h => by
    unfold okE at h
    split at h
    · rw [Bool.and_eq_true] at h
      exact s_mlst (pes_of g (sEs es) h.1).pa h.2
    · cases h
  | .frz a => fun X W' c x g h => by
    unfold okE at h
    rw [Bool.and_eq_true] at h
    exact s_frz (sE a X W' c x g h.2).pe h.1
  | .bin o a b => fun X W' c x g h => by
    unfold okE at h
    split at h
    · simp only [Bool.and_eq_true] at h
      exact s_bin h.1 (sE a X W' c _ g h.2.1).pe (sE b X W' c _ g h.2.2).pe
    · cases h
  | .neg a => fun X W' c x g h => by
    unfold okE at h
    split at h
    · exact s_neg (sE a X W' c _ g h).pe
    · cases h
  | .cmp o a b => fun X W' c x g h => by
    unfold okE at h
    split at h
    · simp only [Bool.and_eq_true] at h
      exact s_cmp g h.1 h.2.1 (sE a X W' c _ g h.2.2.1).pe (sE b X W' c _ g h.2.2.2).pe
    · cases h
  | .chain o p a b d => fun X W' c x g h => by
    unfold okE at h
    split at h
    · simp only [Bool.and_eq_true] at h
      exact s_chain g h.1 h.2.1 h.2.2.1 (sE a X W' c _ g h.2.2.2.1).pe (sE b X W' c _ g h.2.2.2.2.1).pe (sE d X W' c _ g h.2.2.2.2.2).pe
    · cases h
  | .and_ a b => fun X W' c x g h => by
    unfold okE at h
    split at h
    · rw [Bool.and_eq_true] at h
      exact s_and (sE a X W' c _ g h.1) (one_and (sE b X W' c _ g h.2))
    · rw [Bool.and_eq_true] at h
      exact s_and (sE a X W' c _ g h.1) (tail_pe (sE b X W' c _ g h.2))
    · cases h
  | .or_ a b => fun X W' c x g h => by
    unfold okE at h
    split at h
    · rw [Bool.and_eq_true] at h
      exact s_or (sE a X W' c _ g h.1) (one_or (sE b X W' c _ g h.2))
    · rw [Bool.and_eq_true] at h
      exact s_or (sE a X W' c _ g h.1) (tail_pe (sE b X W' c _ g h.2))
    · cases h
  | .not_ a => fun X W' c x g h => by
    unfold okE at h
    split at h
    · exact s_not (sE a X W' c _ g h)
    · cases h
  | .ite d a b => fun X W' c x g h => by
    unfold okE at h
    split at h
    · simp only [Bool.and_eq_true] at h
      exact s_ite (sE d X W' c _ g h.1) (sE a X W' c _ g h.2.1) (sE b X W' c _ g h.2.2)
    · cases h
  | .idx a i => fun X W' c x g h => by
    unfold okE at h
    split at h
    · simp only [Bool.and_eq_true] at h
      exact s_idx g h.1 (sE a X W' c _ g h.2.1).pe (sE i X W' c _ g h.2.2).pe
    · cases h
  | .slc a lo hi => fun X W' c x g h => by
    unfold okE at h
    split at h
    · simp only [Bool.and_eq_true] at h
      exact s_slc (sE a X W' c _ g h.1).pe (po_of g (sEo lo) h.2.1) (po_of g (sEo hi) h.2.2)
    · cases h
  | .call f es => fun X W' c x g h => by
    unfold okE at h
    split at h
    · simp only [Bool.and_eq_true] at h
      obtain ⟨e, h1, h2, h3, h4⟩ := h
      cases of_decide_eq_true e
      have p := pes_of g (sEs es) h4
      exact s_call g h1 h2 p.nst (by simpa using h3) p.pa
    · cases h
  | .b1 f a => fun X W' c x g h => by
    unfold okE at h
    split at h
    · simp only [Bool.and_eq_true] at h
      obtain ⟨e, h1, h2, h3⟩ := h
      cases of_decide_eq_true e
      exact s_b1 g h1 h2 (sE a X W' c _ g h3).pe
    · cases h
  | .b2 f a b => fun X W' c x g h => by
    unfold okE at h
    split at h
    · simp only [Bool.and_eq_true] at h
      obtain ⟨e, h1, h2, h3, h4, h5⟩ := h
      cases of_decide_eq_true e
      exact s_b2 g h1 h2 h3 (sE a X W' c _ g h4).pe (sE b X W' c _ g h5).pe
    · cases h
  | .bm m o es => fun X W' c x g h => by
    have hs := sEs es
    have ho := sE o
    unfold okE at h
    split at h
    · split at h
      · split at h
        · simp only [Bool.and_eq_true] at h
          obtain ⟨e, h1, h2, h3, h4, h5⟩ := h
          cases of_decide_eq_true e
          exact s_append g h1 h2 h3 (ho X W' c _ g h4).pe (hs.1 X W' c _ g h5).pe
        · cases h
      · cases h
    · split at h
      · split at h
        · simp only [Bool.and_eq_true] at h
          obtain ⟨e, h1, h2, h3, h4, h5, h6, h7⟩ := h
          cases of_decide_eq_true e
          exact s_dget g h1 h2 h3 h4 (ho X W' c _ g h5).pe (hs.1 X W' c _ g h6).pe (hs.2.1 X W' c _ g h7).pe
        · cases h
      · cases h
    · cases h
  | .isi a t => fun X W' c x g h => by
    unfold okE at h
    split at h
    · simp only [Bool.and_eq_true, Bool.not_eq_true', decide_eq_false_iff_not] at h
      obtain ⟨e, h1, h2, h3, e2, h4, h5⟩ := h
      cases of_decide_eq_true e
      cases of_decide_eq_true e2
      exact s_isi g h1 h2 h4 h5 (sE a X W' c _ g h3).pe
    · cases h
  | .dsp ks es => fun X W' c x g h => by
    unfold okE at h
    split at h
    · simp only [Bool.and_eq_true, Bool.not_eq_true', decide_eq_true_eq] at h
      obtain ⟨e, h1, h2, h3, h4, h5⟩ := h
      exact s_dsp e h2 (by rintro rfl; simp at h3) h4 h5 (pes_of g (sEs es) h1)
    · cases h
  | .lc own t kd its cond elt => fun X W' c x g h => by
    have hs := sEs its
    have he := sE elt
    have hc := sEo cond
    unfold okE at h
    split at h
    · simp only [Bool.and_eq_true] at h
      obtain ⟨h1, h2, h3, h4, h5, h6, h7⟩ := h
      exact (s_lc g h1 (pi_I g (all_imp (fun e he y hy => he X W' c y g hy) hs) h2) h3 h4 h5 h6 (fun e ee X y g2 hy => by subst ee; exact hc X W0 _ y g2 hy) fun X g2 => he X W0 _ _ g2 h7).1
    · cases h
  | .lc2 own vs1 t kd its t1 it1 elt => fun X W' c x g h => by
    have hs := sEs its
    have he := sE elt
    have hi := sE it1
    unfold okE at h
    split at h
    · simp only [Bool.and_eq_true] at h
      obtain ⟨h1, h2, h3, h4, h5, h6, h7, h8, h9, h10, h11⟩ := h
      exact (s_lc2 g h1 (pi_I g (all_imp (fun e he y hy => he X W' c y g hy) hs) h2) h3 h4 h5 h6 h7 h8 h9 (fun X g2 => hi X W0 _ _ g2 h10) fun X g2 => he X W0 _ _ g2 h11).1
    · cases h
  | .sset a => fun X W' c x g h => by
    have ha := sE a
    unfold okE at h
    split at h
    · simp only [Bool.and_eq_true] at h
      obtain ⟨e, h1, e2, h2, h3, h4⟩ := h
      cases of_decide_eq_true e
      cases of_decide_eq_true e2
      exact s_sset g h1 h2 h3 (ha X W' c _ g h4).pe
    · cases h
  | .srt mu a => fun X W' c x g h => by
    have ha := sE a
    unfold okE at h
    split at h
    · simp only [Bool.and_eq_true] at h
      obtain ⟨e, h1, h2, h3⟩ := h
      cases of_decide_eq_true e
      exact s_srt g h1 h2 (ha X W' c _ g h3).pe
    · cases h
  | .dictzip _ _ => fun X W' c x g h => by unfold okE at h; cases h
  | .addm a b => fun X W' c x g h => by
    have ha := sE a
    have hb := sE b
    unfold okE at h
    split at h
    · rw [Bool.and_eq_true] at h
      exact s_addm (ha X W' c _ g h.1).pe (hb X W' c _ g h.2).pe
    · cases h
  | .dict _ => fun X W' c x g h => by unfold okE at h; cases h
  | .mdict _ => fun X W' c x g h => by unfold okE at h; cases h
  | .meth _ _ _ => fun X W' c x g h => by unfold okE at h; cases h
  | .attr _ _ => fun X W' c x g h => by unfold okE at h; cases h
  | .mk _ _ => fun X W' c x g h => by unfold okE at h; cases h
theorem sEs : ∀ es : Es, Es.All (SE cA G k) es
  | .nil => trivial
  | .cons e es => ⟨sE e, sEs es⟩
theorem sEo : ∀ o : Eo, SEo cA G k o
  | .no => trivial
  | .yes e => sE e
end
end
end MP
set_option Elab.async false
set_option linter.all false
set_option maxRecDepth 100000
set_option maxHeartbeats 4000000
/-! MP20: statements. -/
namespace MP
open PySem PySem.Spec PyProof.Rows L2

def locN (sc : Scope) : List Expr → Option (List (Str × Nat))
  | [] => some []
  | .Name y p :: r => if decide (sc.names.lookup y = some .local) then (locN sc r).map ((y, p.line) :: ·) else none
  | _ :: _ => none
/-- names stored from the right -/
def parB (c : SC) (ts : List Expr) (vs : List Expr) : Bool :=
  match ts with
  | [.Name x px, .Name y py] => [decide (c.sc.names.lookup x = some .local), decide (c.sc.names.lookup y = some .local), py.line == px.line, !decide (x = y), decide (vs.length = 2), !(vs.all (foldedForSure 8)), !(vs.all (constantsAlone 8))].all id
  | [.Name x px, .Name y py, .Name z pz] => [decide (c.sc.names.lookup x = some .local), decide (c.sc.names.lookup y = some .local), decide (c.sc.names.lookup z = some .local), py.line == px.line, pz.line == px.line, !decide (x = y), !decide (x = z), !decide (y = z),
      decide (vs.length = 3), !(vs.all (foldedForSure 8)), !(vs.all (constantsAlone 8))].all id
  | _ => false
/-- some name of the targets is no local: the tuple is made and unpacked -/
def nlocT (sc : Scope) : Expr → Bool
  | .Name x _ => decide (sc.names.lookup x = some .local) | _ => false
def isLc : E → Bool
  | .lc .. => true | .lc2 .. => true | _ => false
def Bop.isAS : Bop → Bool
  | .add => true | .sub => true | _ => false
def isTupE : Expr → Bool
  | .Tuple .. => true | _ => false
def okAsg (c : SC) (t : Tg) (e : E) (tg x : Expr) : Bool := match t with
  | .t (.name i) => match tg with
    | .Name y py => (nameAt c i y && locB c y) && (okE c e x && (!(swB c.sc y py x) || isLc e))
    | _ => false
  | .t (.tup ts) => match tg with
    | .Tuple tgs _ _ => match x with
      | .Tuple vs _ _ => match e with
        | .tup es => okEs c es vs && (okTs c ts tgs && (parB c tgs vs || (!(tgs.all (nlocT c.sc)) && decide (es.len ≤ 1000))))
        | _ => false
      | _ => okT c (.tup ts) tg && (ncomp x && okE c e x)
    | _ => false
  | .sub o i => match tg with
    | .Subscript y z _ => nsl z && (okE c o y && (okE c i z && (ncomp x && okE c e x)))
    | _ => false
  | _ => false
mutual
def okS (c : SC) : S → Stmt → Bool
  | .ret e, x => match x with
    | .Return (some y) _ => okE c e y
    | _ => false
  | .retN, x => match x with
    | .Return none _ => true
    | _ => false
  | .asg t e, x => match x with
    | .Assign [tg] y _ => okAsg c t e tg y
    | _ => false
  | .aug i o e, x => match x with
    | .AugAssign (.Name y _) op z _ => o.is op && ((nameAt c i y && locB c y) && (okE c e z && o.isAS))
    | _ => false
  | .ife d a b, x => match x with
    | .If t bs cs _ => okE c d t && (okSs c a bs && okSs c b cs)
    | _ => false
  | .forS t kd its body, x => match x with
    | .For tg it bs [] _ => okI c kd its tg it && (okT c t tg && (nset it && okSs c body bs))
    | _ => false
  | .whileS d body, x => match x with
    | .While t bs [] _ => okE c d t && okSs c body bs
    | _ => false
  | .expr e, x => match x with
    | .Expr y _ => ncomp y && okE c e y
    | _ => false
  | .raise_ cl, x => match x with
    | .Raise (some (.Call (.Name y _) [.Constant (.str _) _ _] [] _)) none _ => decide (y = cl) && (glB c.sc cl && (plN cl && c.exs.contains cl))
    | _ => false
  | .pass_, x => match x with
    | .Pass _ => true
    | _ => false
  | .cont, x => match x with
    | .Continue _ => true
    | _ => false
  | .brk, x => match x with
    | .Break _ => true
    | _ => false
def okSs (c : SC) : Ss → List Stmt → Bool
  | .nil, xs => match xs with
    | [] => true
    | _ => false
  | .cons s ss, xs => match xs with
    | x :: xs => okS c s x && okSs c ss xs
    | [] => false
end

section
variable {K : PySem.W.Frag} {cA : Str → Addr} {H H' H1 : Hp} {ρ ρ' ρ1 : Rho} {s : Sto} {σ σ2 : L2.St} {h h' : Hq} {W' W2 : WX} {D D' : Ends} {r : RS}
theorem OutS.ext (o : OutS K cA W' σ H ρ r D) (e : Ext H ρ H1 ρ1) : OutS K cA W' σ2 H1 ρ1 r D := by
  cases r with
  | nx s h => exact fun σ' H' ρ' r e' => o σ' H' ρ' r (e.trans e')
  | rt w h => exact fun H' ρ' r e' => o H' ρ' r (e.trans e')
  | bk s h => exact fun σ' H' ρ' r e' => o σ' H' ρ' r (e.trans e')
  | ct s h => exact fun σ' H' ρ' r e' => o σ' H' ρ' r (e.trans e')
  | exc c s h => exact fun σ' H' ρ' r e' => o σ' H' ρ' r (e.trans e')
  | bad => exact o
theorem OutS.toS {α : Type} {m : R α} {f : α → Hq → RS} (o : OutS K cA W' σ H ρ (m.toS s f) D) (rst : RSt K H ρ s σ) (t : TupOk H ρ) :
    OutE K cA W' σ H ρ m fun a h1 H1 ρ1 => OutS K cA W' σ H1 ρ1 (f a h1) D := by
  cases m with
  | ok a h => exact fun H' ρ' r e => OutS.ext (show OutS K cA W' σ H ρ (f a h) D from o) e
  | exc c h => exact fun H' ρ' r e => o σ H' ρ' r e (rst.mono e t)
  | bad => exact o
end
section
variable {X : Cx} {W' W2 : WX} {c : SC} {cA : Str → Addr} {G : Gam} {k : Nat} {x y z tg : Expr} {pos p1 p2 : Pos} {a b d e : E} {es : Es} {xs : List Expr}
theorem aS {m : Sto → Hq → R W} {f : W → Hq → RS} {D : Ends} {σ : L2.St} {H : Hp} {s : Sto} {h : Hq} {ρ : Rho} {Qk : V → Hp → Prop} (rep : Rep X.K cA ρ h H) (rst : RSt X.K H ρ s σ) (o : OutS X.K cA W' σ H ρ ((m s h).toS s f) D)
    (hk : ∀ w h1 H1 ρ1 v, Rep X.K cA ρ1 h1 H1 → Ext H ρ H1 ρ1 → RSt X.K H1 ρ1 s σ → RW X.K H1 ρ1 w v → OutS X.K cA W' σ H1 ρ1 (f w h1) D → Qk v H1) : rdE X.K cA W' m σ H Qk :=
  ⟨s, h, ρ, rep, rst, (o.toS rst rep.tupOk).imp fun w h1 H1 ρ1 _ rep1 e o1 v rv => hk w h1 H1 ρ1 v rep1 e (rst.mono e rep.tupOk) rv o1⟩
theorem aT {m : Sto → Hq → R Bool} {f : Bool → Hq → RS} {D : Ends} {σ : L2.St} {H : Hp} {s : Sto} {h : Hq} {ρ : Rho} {Qk : Bool → Hp → Prop} (rep : Rep X.K cA ρ h H) (rst : RSt X.K H ρ s σ) (o : OutS X.K cA W' σ H ρ ((m s h).toS s f) D)
    (hk : ∀ w h1 H1 ρ1, Rep X.K cA ρ1 h1 H1 → Ext H ρ H1 ρ1 → RSt X.K H1 ρ1 s σ → OutS X.K cA W' σ H1 ρ1 (f w h1) D → Qk w H1) : rdT X.K cA W' m σ H Qk :=
  ⟨s, h, ρ, rep, rst, (o.toS rst rep.tupOk).imp fun w h1 H1 ρ1 _ rep1 e o1 => hk w h1 H1 ρ1 rep1 e (rst.mono e rep.tupOk) o1⟩
/-! ### assignments -/
theorem sw_is {el : Expr} {gs : List Comprehension} {scope : Scope} {y : Str} {py : Pos} {l : Nat} {env : Env} (hk : env.scope.kind = .function) (h : swB env.scope y py (.ListComp el gs scope pos) = true) :
    env.scope.names.lookup y = some .local ∧ swapsWith (.ListComp el gs scope pos) (some (.Name y py)) l env = pure true := by
  unfold swB at h
  simp only [Bool.and_eq_true, decide_eq_true_eq, Bool.not_eq_true'] at h
  exact ⟨h.1, sw_true hk h.1 h.2.1 h.2.2⟩
theorem ps_asg1 (g : Gd X W' c cA G k) {i : Nat} {n : Str} {py : Pos} (hi : nameAt c i n = true) (hl : locB c n = true) {te : TE} (p : PE X x te) (h : swB c.sc n py x = false) : PS X (.Assign [.Name n py] x pos) (tAsg te (gName i)) := by
  obtain ⟨l1, l2⟩ := g.loc hl
  exact ps_set g.hN (g.ix hi) l1 p (sw_at g.kind (by rw [g.sc]; exact h)) l2
theorem rd_asg {t : T} {D : Ends} {σ : L2.St} {H : Hp} {s : Sto} {h : Hq} {ρ : Rho} (rep : Rep X.K cA ρ h H) (rst : RSt X.K H ρ s σ) (o : OutS X.K cA W' σ H ρ (evS G (.asg (.t t) e) s h) D) : rdE X.K cA W' (evE G e) σ H fun v H1 => rdG X.K t v σ H1 D.nx := by
  unfold evS at o
  refine aS rep rst o fun w h1 H1 ρ1 v rep1 ext st rw o1 => ?_
  unfold asgTg at o1
  dsimp only at o1
  split at o1
  · rename_i s' es
    exact ⟨w, s, H1, ρ1, fun _ _ h => h, rw, st, s', es, fun σ' r q => o1 σ' H1 ρ1 rep1 Ext.refl r⟩
  · exact o1.elim
theorem rdG_name {i : Nat} {v : V} {σ : L2.St} {H : Hp} {Q : L2.St → Hp → Prop} (h : rdG X.K (.name i) v σ H Q) : gName i v σ H Q := by
  obtain ⟨w, s, Hm, ρ, sub, rw, rst, s', e, f⟩ := h
  unfold asgT at e
  cases e
  refine f _ (rst.set rw) ?_
  show (σ.set i (some v)).set i none = σ.set i none
  rw [List.set_set]
theorem s_asgName (g : Gd X W' c cA G k) {i : Nat} {n : Str} {py : Pos} (hi : nameAt c i n = true) (hl : locB c n = true) (he : okE c e x = true) (hs : (!(swB c.sc n py x) || isLc e) = true) : PS X (.Assign [.Name n py] x pos) (rdS X.K cA W' (evS G (.asg (.t (.name i)) e))) := by
  have key : ∃ te, (∀ σ H Q, rdE X.K cA W' (evE G e) σ H Q → te σ H Q) ∧ PS X (.Assign [.Name n py] x pos) (tAsg te (gName i)) := by
    cases hb : swB c.sc n py x with
    | false => exact ⟨_, fun _ _ _ h => h, ps_asg1 g hi hl (sE e X W' c x g he).pe hb⟩
    | true =>
      rw [hb] at hs
      cases e with
      | lc own t kd its cond elt =>
        have h := he
        unfold okE at h
        split at h
        · simp only [Bool.and_eq_true] at h
          obtain ⟨h1, h2, h3, h4, h5, h6, h7⟩ := h
          rw [← g.sc] at hb
          obtain ⟨w1, w2⟩ := sw_is (l := pos.line) g.kind hb
          exact (s_lc g h1 (pi_I g (all_imp (fun e he y hy => he X W' c y g hy) (sEs its)) h2) h3 h4 h5 h6 (fun e ee X y g2 hy => sE e X W0 _ y g2 hy) fun X g2 => sE elt X W0 _ _ g2 h7).2 (g.ix hi) w1 w2
        · cases h
      | lc2 own vs1 t kd its t1 it1 elt =>
        have h := he
        unfold okE at h
        split at h
        · simp only [Bool.and_eq_true] at h
          obtain ⟨h1, h2, h3, h4, h5, h6, h7, h8, h9, h10, h11⟩ := h
          rw [← g.sc] at hb
          obtain ⟨w1, w2⟩ := sw_is (l := pos.line) g.kind hb
          exact (s_lc2 g h1 (pi_I g (all_imp (fun e he y hy => he X W' c y g hy) (sEs its)) h2) h3 h4 h5 h6 h7 h8 h9 (fun X g2 => sE it1 X W0 _ _ g2 h10) fun X g2 => sE elt X W0 _ _ g2 h11).2 (g.ix hi) w1 w2
        · cases h
      | _ => cases hs
  obtain ⟨te, f, p⟩ := key
  refine PS.weak p fun D σ H ⟨s, h, ρ, rep, rst, o⟩ => f _ _ _ ?_
  obtain ⟨s1, h1, ρ1, r1, r2, o2⟩ := rd_asg rep rst o
  exact ⟨s1, h1, ρ1, r1, r2, o2.imp fun _ _ _ _ _ _ _ q v rv => rdG_name (q v rv)⟩
theorem vals2 {vs : List Expr} (h : vs.length = 2) : ∃ a b, vs = [a, b] := by
  match vs, h with
  | [a, b], _ => exact ⟨a, b, rfl⟩
theorem vals3 {vs : List Expr} (h : vs.length = 3) : ∃ a b c, vs = [a, b, c] := by
  match vs, h with
  | [a, b, c], _ => exact ⟨a, b, c, rfl⟩
theorem any_nst (f : Expr → Bool) : ∀ {vs : List Expr}, (∀ v, nst v = true → f v = false) → nstL vs = true → vs.any f = false
  | [], _, _ => rfl
  | v :: vs, hf, h => by
    unfold nstL at h
    rw [Bool.and_eq_true] at h
    rw [List.any_cons, any_nst f hf h.2, hf v h.1]
    rfl
theorem kindOf_beq {env : Env} {x : Str} (h : env.scope.names.lookup x = some .local) : (env.kindOf x == some NameKind.local) = true := by
  show (env.scope.names.lookup x == some NameKind.local) = true
  rw [h]; rfl
theorem par2 {env : Env} (hk : env.scope.kind = .function) {x y : Str} {px py : Pos} {vs : List Expr} {kt kv : Nat} {pt pv : Pos} (hx : env.scope.names.lookup x = some .local) (hy : env.scope.names.lookup y = some .local) (hl : (py.line == px.line) = true) (hne : x ≠ y)
    (hv : vs.length = 2) (hs : nstL vs = true) (hf : vs.all (foldedForSure 8) = false) (hc : vs.all (constantsAlone 8) = false) : swappedStores [.Tuple [.Name x px, .Name y py] kt pt] (.Tuple vs kv pv) env = pure (some [x, y]) := by
  have hb : env.blockKind = .function := by unfold Env.blockKind; rw [hk]; rfl
  have k1 : env.kindOf x = some .local := hx
  have k2 : env.kindOf y = some .local := hy
  have ne : (y == x) = false := by simpa using Ne.symm hne
  have hl := eq_of_beq hl
  unfold swappedStores
  dsimp only
  rw [any_nst _ ?_ hs]
  rotate_left
  · intro v hv
    cases v <;> first | rfl | cases hv
  simp only [hb, hv, hf, hc]
  simp [List.filterMap_cons, k1, k2, hl, Expr.pos, List.eraseDups_cons, ne, hne, Ne.symm hne]
theorem par3 {env : Env} (hk : env.scope.kind = .function) {x y z : Str} {px py pz : Pos} {vs : List Expr} {kt kv : Nat} {pt pv : Pos} (hx : env.scope.names.lookup x = some .local) (hy : env.scope.names.lookup y = some .local) (hz : env.scope.names.lookup z = some .local) (hl : (py.line == px.line) = true) (hl2 : (pz.line == px.line) = true)
    (hne : x ≠ y) (hne2 : x ≠ z) (hne3 : y ≠ z) (hv : vs.length = 3) (hs : nstL vs = true) (hf : vs.all (foldedForSure 8) = false) (hc : vs.all (constantsAlone 8) = false) : swappedStores [.Tuple [.Name x px, .Name y py, .Name z pz] kt pt] (.Tuple vs kv pv) env = pure (some [x, y, z]) := by
  have hb : env.blockKind = .function := by unfold Env.blockKind; rw [hk]; rfl
  have k1 : env.kindOf x = some .local := hx
  have k2 : env.kindOf y = some .local := hy
  have k3 : env.kindOf z = some .local := hz
  have hl := eq_of_beq hl
  have hl2 := eq_of_beq hl2
  unfold swappedStores
  dsimp only
  rw [any_nst _ ?_ hs]
  rotate_left
  · intro v hv
    cases v <;> first | rfl | cases hv
  simp only [hb, hv, hf, hc]
  simp [List.filterMap_cons, k1, k2, k3, hl, hl2, Expr.pos, List.eraseDups_cons, hne, Ne.symm hne, hne2, Ne.symm hne2, hne3, Ne.symm hne3]
end
end MP
set_option Elab.async false
set_option linter.all false
set_option maxRecDepth 100000
set_option maxHeartbeats 4000000
/-! MP21: every statement that the checker lets through. -/
namespace MP
open PySem PySem.Spec PyProof.Rows L2
section
variable {X : Cx} {W' W2 : WX} {c : SC} {cA : Str → Addr} {G : Gam} {k : Nat} {x y z tg : Expr} {pos p1 p2 : Pos} {a b d e : E} {es : Es} {xs : List Expr}
theorem evEs_tup {s : Sto} {h : Hq} : evE G (.tup es) s h = (evEs G es s h).bind fun ws h => .ok (.tup ws) h := by rw [evE]
/-- a tuple's items to names, in any order -/
theorem asg2 {t1 t2 : T} {w1 w2 : W} {s s' : Sto} {i j : Nat} (h : asgT (.tup (.cons (.name i) (.cons (.name j) .nil))) (.tup [w1, w2]) s = some s') : s' = (s.set i (some w1)).set j (some w2) := by
  simp only [asgT, asgTs] at h
  exact (Option.some.inj h).symm
theorem asg3 {w1 w2 w3 : W} {s s' : Sto} {i j l : Nat} (h : asgT (.tup (.cons (.name i) (.cons (.name j) (.cons (.name l) .nil)))) (.tup [w1, w2, w3]) s = some s') : s' = ((s.set i (some w1)).set j (some w2)).set l (some w3) := by
  simp only [asgT, asgTs] at h
  exact (Option.some.inj h).symm
theorem okT_name {t : T} {n : Str} {p : Pos} (h : okT c t (.Name n p) = true) : ∃ i, t = .name i ∧ nameAt c i n = true ∧ locB c n = true := by
  cases t with
  | name i =>
    unfold okT at h
    rw [Bool.and_eq_true] at h
    exact ⟨i, rfl, h.1, h.2⟩
  | tup ts => unfold okT at h; cases h
theorem nd_ne (g : Gd X W' c cA G k) {i j : Nat} {n m : Str} (hi : nameAt c i n = true) (hj : nameAt c j m = true) (h : n ≠ m) : i ≠ j := by
  rintro rfl
  have e1 := g.ix hi
  rw [g.ix hj] at e1
  exact h (Option.some.inj e1).symm
theorem RWs.two {K : PySem.W.Frag} {H : Hp} {ρ : Rho} {w1 w2 : W} {vs : List V} (r : RWs K H ρ [w1, w2] vs) : ∃ v1 v2, vs = [v1, v2] ∧ RW K H ρ w1 v1 ∧ RW K H ρ w2 v2 := by
  cases r with
  | cons a t => cases t with
    | cons b t => cases t; exact ⟨_, _, rfl, a, b⟩
theorem RWs.three {K : PySem.W.Frag} {H : Hp} {ρ : Rho} {w1 w2 w3 : W} {vs : List V} (r : RWs K H ρ [w1, w2, w3] vs) : ∃ v1 v2 v3, vs = [v1, v2, v3] ∧ RW K H ρ w1 v1 ∧ RW K H ρ w2 v2 ∧ RW K H ρ w3 v3 := by
  cases r with
  | cons a t => cases t with
    | cons b t => cases t with
      | cons c t => cases t; exact ⟨_, _, _, rfl, a, b, c⟩
/-- a tuple display to names -/
theorem s_par (g : Gd X W' c cA G k) {ts : Ts} {tgs vs : List Expr} {kt kv : Nat} {pt pv : Pos} (he : okEs c es vs = true) (ht : okTs c ts tgs = true) (hp : parB c tgs vs = true) :
    PS X (.Assign [.Tuple tgs kt pt] (.Tuple vs kv pv) pos) (rdS X.K cA W' (evS G (.asg (.t (.tup ts)) (.tup es)))) := by
  have P := pes_of g (sEs es) he
  unfold parB at hp
  split at hp
  · simp only [List.all_cons, List.all_nil, id, Bool.and_true, Bool.and_eq_true, decide_eq_true_eq, Bool.not_eq_true', decide_eq_false_iff_not] at hp
    obtain ⟨l1, l2, l3, l4, l5, l6, l7⟩ := hp
    cases ts with
    | nil => unfold okTs at ht; cases ht
    | cons t1 ts => cases ts with
      | nil => simp only [okTs, Bool.and_eq_true] at ht; exact absurd ht.2 (by decide)
      | cons t2 ts => cases ts with
        | cons _ _ => simp only [okTs, Bool.and_eq_true] at ht; exact absurd ht.2.2 (by decide)
        | nil =>
          simp only [okTs, Bool.and_eq_true] at ht
          obtain ⟨i, rfl, hi, _⟩ := okT_name ht.1
          obtain ⟨j, rfl, hj, _⟩ := okT_name ht.2.1
          obtain ⟨a, b, rfl⟩ := vals2 l5
          have nn := nd_ne g hi hj l4
          rw [← g.sc] at l1 l2
          refine PS.weak (ps_par g.calm g.hN (g.ix hi) (g.ix hj) nn l1 l2 P.pa (par2 g.kind l1 l2 l3 l4 l5 P.nst l6 l7) rfl) fun D σ H ⟨s, h, ρ, rep, rst, o⟩ => ?_
          unfold evS at o
          rw [evEs_tup] at o
          have o2 := (o.toS rst rep.tupOk).bind
          refine ⟨s, h, ρ, rep, rst, o2.imp fun ws h1 H1 ρ1 e1 rep1 ext o1 vs rv => ?_⟩
          have o1 := o1.now rep1
          have hl : ws.length = 2 := by rw [evEs_len _ _ _ _ _ e1, ← P.len]; rfl
          obtain ⟨w1, w2, rfl⟩ : ∃ w1 w2, ws = [w1, w2] := by
            match ws, hl with
            | [a, b], _ => exact ⟨a, b, rfl⟩
          obtain ⟨v1, v2, rfl, r1, r2⟩ := rv.two
          refine ⟨v1, v2, rfl, ?_⟩
          unfold asgTg at o1
          dsimp only at o1
          split at o1
          · rename_i s' e2
            cases asg2 (t1 := .name i) (t2 := .name j) e2
            have st1 := rst.mono ext rep.tupOk
            exact o1 _ H1 ρ1 rep1 Ext.refl ((st1.set r1).set r2)
          · exact o1.elim
  · simp only [List.all_cons, List.all_nil, id, Bool.and_true, Bool.and_eq_true, decide_eq_true_eq, Bool.not_eq_true', decide_eq_false_iff_not] at hp
    obtain ⟨l1, l2, l8, l3, l9, l4, l10, l11, l5, l6, l7⟩ := hp
    cases ts with
    | nil => unfold okTs at ht; cases ht
    | cons t1 ts => cases ts with
      | nil => simp only [okTs, Bool.and_eq_true] at ht; exact absurd ht.2 (by decide)
      | cons t2 ts => cases ts with
        | nil => simp only [okTs, Bool.and_eq_true] at ht; exact absurd ht.2.2 (by decide)
        | cons t3 ts => cases ts with
          | cons _ _ => simp only [okTs, Bool.and_eq_true] at ht; exact absurd ht.2.2.2 (by decide)
          | nil =>
            simp only [okTs, Bool.and_eq_true] at ht
            obtain ⟨i, rfl, hi, _⟩ := okT_name ht.1
            obtain ⟨j, rfl, hj, _⟩ := okT_name ht.2.1
            obtain ⟨l, rfl, hl, _⟩ := okT_name ht.2.2.1
            obtain ⟨a, b, c3, rfl⟩ := vals3 l5
            rw [← g.sc] at l1 l2 l8
            refine PS.weak (ps_par3 g.calm g.hN (g.ix hi) (g.ix hj) (g.ix hl) (nd_ne g hi hj l4) (nd_ne g hi hl l10) (nd_ne g hj hl l11) l1 l2 l8 P.pa (par3 g.kind l1 l2 l8 l3 l9 l4 l10 l11 l5 P.nst l6 l7) rfl) fun D σ H ⟨s, h, ρ, rep, rst, o⟩ => ?_
            unfold evS at o
            rw [evEs_tup] at o
            have o2 := (o.toS rst rep.tupOk).bind
            refine ⟨s, h, ρ, rep, rst, o2.imp fun ws h1 H1 ρ1 e1 rep1 ext o1 vs rv => ?_⟩
            have o1 := o1.now rep1
            have hl : ws.length = 3 := by rw [evEs_len _ _ _ _ _ e1, ← P.len]; rfl
            obtain ⟨w1, w2, w3, rfl⟩ : ∃ w1 w2 w3, ws = [w1, w2, w3] := by
              match ws, hl with
              | [a, b, c], _ => exact ⟨a, b, c, rfl⟩
            obtain ⟨v1, v2, v3, rfl, r1, r2, r3⟩ := rv.three
            refine ⟨v1, v2, v3, rfl, ?_⟩
            unfold asgTg at o1
            dsimp only at o1
            split at o1
            · rename_i s' e2
              cases asg3 e2
              have st1 := rst.mono ext rep.tupOk
              exact o1 _ H1 ρ1 rep1 Ext.refl (((st1.set r1).set r2).set r3)
            · exact o1.elim
  · cases hp
theorem sws_nc {t : Expr} {l : Nat} {env : Env} (h : ncomp x = true) : swapsWithSole [t] x l env = pure false := by
  show swapsWith x (some t) l env = _
  exact sw_nc h
theorem store_tup {ts : List Expr} {kt : Nat} {pt : Pos} {env : Env} (h : isTupE x = false) : swappedStores [.Tuple ts kt pt] x env = pure none := by
  cases x <;> first | rfl | cases h
theorem fm_len {α β : Type} (f : α → Option β) : ∀ (l : List α), (∃ t ∈ l, f t = none) → (l.filterMap f).length < l.length
  | [], h => by obtain ⟨_, h, _⟩ := h; cases h
  | a :: l, ⟨t, ht, e⟩ => by
    have hle := List.length_filterMap_le f l
    rw [List.filterMap_cons]
    cases ha : f a with
    | none => simp; omega
    | some b =>
      rcases List.mem_cons.mp ht with rfl | ht
      · rw [e] at ha; cases ha
      · have := fm_len f l ⟨t, ht, e⟩
        rw [List.length_cons, List.length_cons]; omega
theorem store_nl {ts vs : List Expr} {kt kv : Nat} {pt pv : Pos} {env : Env} (h : ts.all (nlocT env.scope) = false) : swappedStores [.Tuple ts kt pt] (.Tuple vs kv pv) env = pure none := by
  obtain ⟨t, ht, hn⟩ := List.all_eq_false.mp h
  unfold swappedStores
  dsimp only
  split
  · rfl
  · split
    · rfl
    · rw [if_pos]
      rw [Bool.or_eq_true]
      refine .inl (bne_iff_ne.mpr (Nat.ne_of_lt (fm_len _ _ ⟨t, ht, ?_⟩)))
      cases t with
      | Name x p =>
        have hx : env.scope.names.lookup x ≠ some .local := fun z => hn (by unfold nlocT; exact decide_eq_true z)
        have : (env.kindOf x == some NameKind.local) = false := by simpa [Env.kindOf] using hx
        simp [this]
      | _ => rfl
theorem s_asgTT (g : Gd X W' c cA G k) {ts : Ts} {tgs vs : List Expr} {kt kv : Nat} {pt pv : Pos} (he : okEs c es vs = true) (ht : okTs c ts tgs = true) (hn : tgs.all (nlocT c.sc) = false) (hl : decide (es.len ≤ 1000) = true) :
    PS X (.Assign [.Tuple tgs kt pt] (.Tuple vs kv pv) pos) (rdS X.K cA W' (evS G (.asg (.t (.tup ts)) (.tup es)))) := by
  have hT : okT c (.tup ts) (.Tuple tgs kt pt) = true := by unfold okT; exact ht
  refine PS.weak (ps_asg (s_tup (pes_of g (sEs es) he).pa hl).pe (pg_T g hT) (sws_nc rfl) (store_nl (by rw [g.sc]; exact hn)) rfl) fun D σ H ⟨s, h, ρ, rep, rst, o⟩ => rd_asg rep rst o
theorem store_sub {o i : Expr} {pt : Pos} {env : Env} : swappedStores [.Subscript o i pt] x env = pure none := by
  cases x <;> rfl
theorem s_asgTup (g : Gd X W' c cA G k) {ts : Ts} {tgs : List Expr} {kt : Nat} {pt : Pos} (hx : isTupE x = false) (ht : okT c (.tup ts) (.Tuple tgs kt pt) = true) (hn : ncomp x = true) (he : okE c e x = true) :
    PS X (.Assign [.Tuple tgs kt pt] x pos) (rdS X.K cA W' (evS G (.asg (.t (.tup ts)) e))) :=
  PS.weak (ps_asg (sE e X W' c x g he).pe (pg_T g ht) (sws_nc hn) (store_tup hx) rfl) fun D σ H ⟨s, h, ρ, rep, rst, o⟩ => rd_asg rep rst o
theorem asub_of {o i : Expr} {pt : Pos} {env : Env} (h : nsl i = true) : ∀ v, assign (.Subscript o i pt) env v = (do
      let ov ← holding [v] (eval o env)
      let iv ← holding [v, ov] (eval i env)
      standAt pt
      holding [v, ov, iv] (setItem ov iv v)
      release [v, ov, iv] []) := by
  intro v
  cases i <;> first | rfl | cases h
theorem PSet.or {t t' : TSet} (a : PSet X t) (b : PSet X t') : PSet X (fun o i v H Q => t o i v H Q ∨ t' o i v H Q) := by
  intro pins s σ H o i v ov iv u Q I ro ri rv h
  rcases h with h | h
  · exact a pins s σ H o i v ov iv u Q I ro ri rv h
  · exact b pins s σ H o i v ov iv u Q I ro ri rv h
theorem s_asgSub (g : Gd X W' c cA G k) {o i : E} {pt : Pos} (hn : nsl z = true) (ho : okE c o y = true) (hi : okE c i z = true) (hc : ncomp x = true) (he : okE c e x = true) :
    PS X (.Assign [.Subscript y z pt] x pos) (rdS X.K cA W' (evS G (.asg (.sub o i) e))) := by
  refine PS.weak (ps_asg (sE e X W' c x g he).pe (pg_sub (sE o X W' c y g ho).pe (sE i X W' c z g hi).pe (PSet.or set_list (set_dict g.uni1)) (asub_of hn)) (sws_nc hc) store_sub rfl) fun D σ H ⟨s, h, ρ, rep, rst, oo⟩ => ?_
  unfold evS at oo
  refine aS rep rst oo fun w h1 H1 ρ1 v rep1 ext st rw o1 => ?_
  unfold asgTg at o1
  refine aS rep1 st o1 fun w2 h2 H2 ρ2 v2 rep2 ext2 st2 rw2 o2 => ?_
  refine aS rep2 st2 o2 fun w3 h3 H3 ρ3 v3 rep3 ext3 st3 rw3 o3 => ?_
  have rwv := (rw.mono ext2 rep1.tupOk).mono ext3 rep2.tupOk
  have rwo := rw2.mono ext3 rep2.tupOk
  split at o3
  · rename_i n
    cases rwo with
    | @ref _ ob _ e hv =>
      split at o3
      · rename_i ws kk eo
        obtain ⟨l, ea⟩ := rep3.live n _ eo (fun z => nomatch z)
        rw [e] at ea; cases ea
        cases hv l rfl
        obtain ⟨vs, q1, q2⟩ := rep3.obj n _ l eo e
        cases rw3
        split at o3
        · rename_i j ej
          refine .inl ⟨l, vs, kk, j, rfl, rfl, q1, by rw [← q2.length]; exact ej, ?_⟩
          have ex := Ext.write (o := .lst (vs.set j v)) e (rep3.some_of e)
          exact o3 σ _ ρ3 (rep3.write e (fun z => by cases z) ⟨_, upd_same, RWs.set (rwv.mono ex rep3.tupOk) j (q2.mono ex rep3.tupOk)⟩) ex (st3.mono ex rep3.tupOk)
        · exact o3.elim
      · rename_i kvs yy eo
        obtain ⟨l, ea⟩ := rep3.live n _ eo (fun z => nomatch z)
        rw [e] at ea; cases ea
        cases hv l rfl
        obtain ⟨vs, q1, q2⟩ := rep3.obj n _ l eo e
        split at o3
        · rename_i key ek
          split at o3
          · rename_i hz
            have ekey := key_of_W ek rw3
            have ex := Ext.write (o := .dK (putK vs key v)) e (rep3.some_of e)
            refine .inr ⟨l, upd H3 l (.dK (putK vs key v)), rfl, .inl ⟨vs, key, q1, ekey, by rw [← q2.length, sizeLine_line]; exact hz, rfl⟩, ?_⟩
            exact o3 σ _ ρ3 (rep3.write e (fun z => by cases z) ⟨_, upd_same, (q2.mono ex rep3.tupOk).put key (rwv.mono ex rep3.tupOk)⟩) ex (st3.mono ex rep3.tupOk)
          · exact o3.elim
        · exact o3.elim
      · exact o3.elim
  · exact o3.elim
theorem s_asg (g : Gd X W' c cA G k) {t : Tg} (h : okAsg c t e tg x = true) : PS X (.Assign [tg] x pos) (rdS X.K cA W' (evS G (.asg t e))) := by
  unfold okAsg at h
  split at h
  · split at h
    · simp only [Bool.and_eq_true] at h
      exact s_asgName g h.1.1 h.1.2 h.2.1 h.2.2
    · cases h
  · split at h
    · split at h
      · split at h
        · simp only [Bool.and_eq_true, Bool.or_eq_true, Bool.not_eq_true'] at h
          rcases h.2.2 with h3 | h3
          · exact s_par g h.1 h.2.1 h3
          · exact s_asgTT g h.1 h.2.1 h3.1 h3.2
        · cases h
      · rename_i hx
        simp only [Bool.and_eq_true] at h
        refine s_asgTup g ?_ h.1 h.2.1 h.2.2
        cases x <;> first | rfl | exact absurd rfl (hx _ _ _)
    · cases h
  · split at h
    · simp only [Bool.and_eq_true] at h
      exact s_asgSub g h.1 h.2.1 h.2.2.1 h.2.2.2.1 h.2.2.2.2
    · cases h
  · cases h
/-! ### the rest -/
/-- a body's context: an own wish about exceptions passes -/
structure Gb (X : Cx) (W' : WX) (c : SC) (cA : Str → Addr) (G : Gam) (k : Nat) : Prop where
  gd : Gd X W' c cA G k
  own : PassesOwn (model X.prog X.w) X.A X.env X.xe
theorem pss_no : PSs X [] (rdS X.K cA W' (evSs G .nil)) := PSs.weak pss_nil fun D σ H ⟨s, h, ρ, rep, rst, o⟩ => by
  unfold evSs at o
  exact o σ H ρ rep Ext.refl rst
theorem pss_c {st : S} {sts : Ss} {xst : Stmt} {xsts : List Stmt} (p : PS X xst (rdS X.K cA W' (evS G st))) (q : PSs X xsts (rdS X.K cA W' (evSs G sts))) : PSs X (xst :: xsts) (rdS X.K cA W' (evSs G (.cons st sts))) :=
  PSs.weak (pss_cons p q) fun D σ H ⟨s, h, ρ, rep, rst, o⟩ => by
    unfold evSs at o
    refine ⟨s, h, ρ, rep, rst, ?_⟩
    cases e : evS G st s h with
    | nx s1 h1 => rw [e] at o; exact fun σ' H' ρ' r ex rs => ⟨s1, h1, ρ', r, rs, OutS.ext (show OutS X.K cA W' σ H ρ (evSs G sts s1 h1) D from o) ex⟩
    | rt w h1 => rw [e] at o; exact o
    | bk s1 h1 => rw [e] at o; exact o
    | ct s1 h1 => rw [e] at o; exact o
    | exc c s1 h1 => rw [e] at o; exact o
    | bad => rw [e] at o; exact o
theorem s_for (g : Gb X W' c cA G k) {t : T} {kd : Ik} {its : Es} {body : Ss} {it : Expr} {bs : List Stmt} (hI : okI c kd its tg it = true) (hT : okT c t tg = true) (hn : nset it = true) (hb : PSs X bs (rdS X.K cA W' (evSs G body))) :
    PS X (.For tg it bs [] pos) (rdS X.K cA W' (evS G (.forS t kd its body))) := by
  have gd := g.gd
  refine PS.weak (ps_for g.own gd.calm (pi_I gd (all_imp (fun e he y hy => he X W' c y gd hy) (sEs its)) hI) (pg_T gd hT) hb (fold_of hn)) fun D σ H ⟨s, h, ρ, rep, rst, o⟩ => ?_
  unfold evS at o
  refine ⟨s, h, ρ, rep, rst, (o.toS rst rep.tupOk).imp fun ws h1 H1 ρ1 _ rep1 ext1 o1 => ?_⟩
  have st1 := rst.mono ext1 rep.tupOk
  split at o1
  · rename_i xs eI
    refine ⟨xs, eI, fun J wk => ?_⟩
    refine ⟨fun i m σ H => m = xs.length - i ∧ i ≤ xs.length ∧ ∃ s h ρ, Rep X.K cA ρ h H ∧ Ext H1 ρ1 H ρ ∧ RSt X.K H ρ s σ ∧ OutS X.K cA W' σ H ρ (forLoop t (fun s h => evSs G body s h) (xs.drop i) s h) D, ⟨xs.length, by simp, by simp, s, h1, ρ1, rep1, Ext.refl, st1, by simpa using o1⟩, ?_⟩
    rintro i m σ2 H2 ⟨rfl, hi, s2, h2, ρ2, rep2, ext2, st2, o2⟩
    obtain ⟨turn, stop⟩ := wk [] h2 H2 ρ2 (fun d hd => by cases hd) (by rw [hide_nil]; exact ext2) (by rw [hide_nil]; exact rep2)
    by_cases hlt : i < xs.length
    · obtain ⟨go, yld⟩ := turn i hlt
      refine .inr ⟨go, _, fun σ' H' p => ⟨xs.length - (i + 1), by omega, p⟩, fun x H3 y => ?_⟩
      obtain ⟨w, ew, ext3, rep3, rw3, _⟩ := yld x H3 y
      rw [hide_nil, hide_nil] at ext3
      rw [hide_nil] at rep3 rw3
      rw [drop_at ew] at o2
      have o3 := OutS.ext (σ2 := σ2) o2 ext3
      unfold forLoop at o3
      cases ea : asgT t w s2 with
      | none => rw [ea] at o3; exact o3.elim
      | some s' =>
        rw [ea] at o3
        refine ⟨w, s2, H3, ρ2, fun _ _ h => h, rw3, st2.mono ext3 rep2.tupOk, s', ea, fun σ3 st3 _ => ⟨s', h2, ρ2, rep3, st3, ?_⟩⟩
        dsimp only at o3
        cases eb : evSs G body s' h2 with
        | nx s5 h5 =>
          rw [eb] at o3
          exact fun σ' H' ρ' r ex rs => ⟨rfl, hlt, s5, h5, ρ', r, (ext2.trans ext3).trans ex, rs, OutS.ext (show OutS X.K cA W' σ2 H3 ρ2 (forLoop t (fun s h => evSs G body s h) (xs.drop (i + 1)) s5 h5) D from o3) ex⟩
        | ct s5 h5 =>
          rw [eb] at o3
          exact fun σ' H' ρ' r ex rs => ⟨rfl, hlt, s5, h5, ρ', r, (ext2.trans ext3).trans ex, rs, OutS.ext (show OutS X.K cA W' σ2 H3 ρ2 (forLoop t (fun s h => evSs G body s h) (xs.drop (i + 1)) s5 h5) D from o3) ex⟩
        | bk s5 h5 => rw [eb] at o3; exact o3
        | rt w5 h5 => rw [eb] at o3; exact o3
        | exc c5 s5 h5 => rw [eb] at o3; exact o3
        | bad => rw [eb] at o3; exact o3
    · have ei : i = xs.length := by omega
      subst ei
      rw [List.drop_length] at o2
      exact .inl ⟨stop, o2 σ2 H2 ρ2 rep2 Ext.refl st2⟩
  · exact o1.elim
theorem s_while (g : Gb X W' c cA G k) {body : Ss} {bs : List Stmt} (h : okE c d x = true) (hb : PSs X bs (rdS X.K cA W' (evSs G body))) : PS X (.While x bs [] pos) (rdS X.K cA W' (evS G (.whileS d body))) := by
  refine PS.weak (ps_while g.own (sE d X W' c x g.gd h).pt hb) fun D σ H ⟨s, h, ρ, rep, rst, o⟩ => ?_
  unfold evS at o
  refine ⟨fun m σ H => ∃ s h ρ, Rep X.K cA ρ h H ∧ RSt X.K H ρ s σ ∧ OutS X.K cA W' σ H ρ (whLoop (fun s h => tstR (evE G d s h)) (fun s h => evSs G body s h) m s h) D, ⟨G.fuel, s, h, ρ, rep, rst, o⟩, ?_⟩
  rintro m σ1 H1 ⟨s1, h1, ρ1, rep1, st1, o1⟩
  cases m with
  | zero => unfold whLoop at o1; exact o1.elim
  | succ m =>
    unfold whLoop at o1
    refine aT rep1 st1 o1 fun b h2 H2 ρ2 rep2 ext2 st2 o2 => ?_
    cases b with
    | false => rw [if_neg (by decide)]; exact o2 σ1 H2 ρ2 rep2 Ext.refl st2
    | true =>
      rw [if_pos rfl]
      refine ⟨_, fun σ' H' p => ⟨m, Nat.lt_succ_self _, p⟩, s1, h2, ρ2, rep2, st2, ?_⟩
      dsimp only at o2
      cases eb : evSs G body s1 h2 with
      | nx s5 h5 => rw [eb] at o2; exact fun σ' H' ρ' r ex rs => ⟨s5, h5, ρ', r, rs, OutS.ext (show OutS X.K cA W' σ1 H2 ρ2 (whLoop (fun s h => tstR (evE G d s h)) (fun s h => evSs G body s h) m s5 h5) D from o2) ex⟩
      | ct s5 h5 => rw [eb] at o2; exact fun σ' H' ρ' r ex rs => ⟨s5, h5, ρ', r, rs, OutS.ext (show OutS X.K cA W' σ1 H2 ρ2 (whLoop (fun s h => tstR (evE G d s h)) (fun s h => evSs G body s h) m s5 h5) D from o2) ex⟩
      | bk s5 h5 => rw [eb] at o2; exact o2
      | rt w5 h5 => rw [eb] at o2; exact o2
      | exc c5 s5 h5 => rw [eb] at o2; exact o2
      | bad => rw [eb] at o2; exact o2
theorem s_raise (g : Gd X W' c cA G k) {cl m : Str} {j : Nat} {p3 : Pos} (h1 : glB c.sc cl = true) (h2 : plN cl = true) (h3 : c.exs.contains cl = true) : PS X (.Raise (some (.Call (.Name cl p1) [.Constant (.str m) j p2] [] p3)) none pos) (rdS X.K cA W' (evS G (.raise_ cl))) := by
  obtain ⟨bmB, B, newId, initId, F, q1, q2, q3, q4, q5⟩ := g.ok.exc cl (by simpa using h3)
  refine PS.weak (ps_raise g.calm g.tk (pmk_own F q1 q2 q3 (raises_own q4 q5) (g.gl h1) (plN_of h2).1)) fun D σ H ⟨s, h, ρ, rep, rst, o⟩ => ?_
  unfold evS at o
  exact o σ H ρ rep Ext.refl rst
theorem s_aug (g : Gd X W' c cA G k) {i : Nat} {n : Str} {o : Bop} {op : Operator} {py : Pos} (h1 : o.is op = true) (h2 : nameAt c i n = true) (h3 : locB c n = true) (h4 : okE c e x = true) (h5 : o.isAS = true) : PS X (.AugAssign (.Name n py) op x pos) (rdS X.K cA W' (evS G (.aug i o e))) := by
  obtain ⟨l1, l2⟩ := g.loc h3
  cases bop_is h1
  cases o with
  | add =>
    refine PS.weak (ps_aug g.hN (g.ix h2) l1 (sE e X W' c x g h4).pe ip_add l2) fun D σ H ⟨s, h, ρ, rep, rst, oo⟩ => ?_
    unfold evS at oo
    split at oo
    · rename_i w ew
      obtain ⟨v, ev, rv⟩ := rst.2 i w ew
      refine ⟨v, ev, aS rep rst oo fun w2 h1 H1 ρ1 v2 rep1 ext st rw o1 => ?_⟩
      split at o1
      · cases rv; cases rw
        refine ⟨_, _, rfl, rfl, ?_⟩
        exact o1 _ H1 ρ1 rep1 Ext.refl (st.set (.int _))
      · exact o1.elim
    · exact oo.elim
  | sub =>
    refine PS.weak (ps_aug g.hN (g.ix h2) l1 (sE e X W' c x g h4).pe ip_sub l2) fun D σ H ⟨s, h, ρ, rep, rst, oo⟩ => ?_
    unfold evS at oo
    split at oo
    · rename_i w ew
      obtain ⟨v, ev, rv⟩ := rst.2 i w ew
      refine ⟨v, ev, aS rep rst oo fun w2 h1 H1 ρ1 v2 rep1 ext st rw o1 => ?_⟩
      split at o1
      · cases rv; cases rw
        refine ⟨_, _, rfl, rfl, ?_⟩
        exact o1 _ H1 ρ1 rep1 Ext.refl (st.set (.int _))
      · exact o1.elim
    · exact oo.elim
  | _ => cases h5
mutual
theorem sS (g : Gb X W' c cA G k) : ∀ {st : S} {x : Stmt}, okS c st x = true → PS X x (rdS X.K cA W' (evS G st))
  | .ret e, x, h => by
    unfold okS at h
    split at h
    · refine PS.weak (ps_ret (sE e X W' c _ g.gd h).pe) fun D σ H ⟨s, h, ρ, rep, rst, o⟩ => ?_
      unfold evS at o
      exact aS rep rst o fun w h1 H1 ρ1 v rep1 ext st rw o1 => o1 H1 ρ1 rep1 Ext.refl v rw
    · cases h
  | .retN, x, h => by
    unfold okS at h
    split at h
    · refine PS.weak ps_retN fun D σ H ⟨s, h, ρ, rep, rst, o⟩ => ?_
      unfold evS at o
      exact o H ρ rep Ext.refl _ .non
    · cases h
  | .asg t e, x, h => by
    unfold okS at h
    split at h
    · exact s_asg g.gd h
    · cases h
  | .aug i o e, x, h => by
    unfold okS at h
    split at h
    · simp only [Bool.and_eq_true] at h
      exact s_aug g.gd h.1 h.2.1.1 h.2.1.2 h.2.2.1 h.2.2.2
    · cases h
  | .ife d a b, x, h => by
    unfold okS at h
    split at h
    · simp only [Bool.and_eq_true] at h
      refine PS.weak (ps_if (sE d X W' c _ g.gd h.1).pt (sSs g h.2.1) (sSs g h.2.2)) fun D σ H ⟨s, h, ρ, rep, rst, o⟩ => ?_
      unfold evS at o
      refine aT rep rst o fun b h1 H1 ρ1 rep1 ext st o1 => ?_
      cases b with
      | true => rw [if_pos rfl]; exact ⟨s, h1, ρ1, rep1, st, o1⟩
      | false => rw [if_neg (by decide)]; exact ⟨s, h1, ρ1, rep1, st, o1⟩
    · cases h
  | .forS t kd its body, x, h => by
    unfold okS at h
    split at h
    · simp only [Bool.and_eq_true] at h
      exact s_for g h.1 h.2.1 h.2.2.1 (sSs g h.2.2.2)
    · cases h
  | .whileS d body, x, h => by
    unfold okS at h
    split at h
    · simp only [Bool.and_eq_true] at h
      exact s_while g h.1 (sSs g h.2)
    · cases h
  | .expr e, x, h => by
    unfold okS at h
    split at h
    · simp only [Bool.and_eq_true] at h
      refine PS.weak (ps_expr (sE e X W' c _ g.gd h.2).pe (sw_nc h.1)) fun D σ H ⟨s, h, ρ, rep, rst, o⟩ => ?_
      unfold evS at o
      exact aS rep rst o fun w h1 H1 ρ1 v rep1 ext st rw o1 => o1 σ H1 ρ1 rep1 Ext.refl st
    · cases h
  | .raise_ cl, x, h => by
    unfold okS at h
    split at h
    · simp only [Bool.and_eq_true] at h
      obtain ⟨e, h1, h2, h3⟩ := h
      cases of_decide_eq_true e
      exact s_raise g.gd h1 h2 h3
    · cases h
  | .pass_, x, h => by
    unfold okS at h
    split at h
    · refine PS.weak ps_pass fun D σ H ⟨s, h, ρ, rep, rst, o⟩ => ?_
      unfold evS at o
      exact o σ H ρ rep Ext.refl rst
    · cases h
  | .cont, x, h => by
    unfold okS at h
    split at h
    · refine PS.weak ps_continue fun D σ H ⟨s, h, ρ, rep, rst, o⟩ => ?_
      unfold evS at o
      exact o σ H ρ rep Ext.refl rst
    · cases h
  | .brk, x, h => by
    unfold okS at h
    split at h
    · refine PS.weak ps_break fun D σ H ⟨s, h, ρ, rep, rst, o⟩ => ?_
      unfold evS at o
      exact o σ H ρ rep Ext.refl rst
    · cases h
theorem sSs (g : Gb X W' c cA G k) : ∀ {ss : Ss} {xs : List Stmt}, okSs c ss xs = true → PSs X xs (rdS X.K cA W' (evSs G ss))
  | .nil, [], _ => pss_no
  | .nil, _ :: _, h => by unfold okSs at h; cases h
  | .cons s ss, [], h => by unfold okSs at h; cases h
  | .cons s ss, x :: xs, h => by
    unfold okSs at h
    rw [Bool.and_eq_true] at h
    exact pss_c (sS g h.1) (sSs g h.2)
end
end
end MP
set_option Elab.async false
set_option linter.all false
set_option maxRecDepth 100000
set_option maxHeartbeats 4000000
/-! MP22: the end of a call; functions; programs. -/
namespace MP
open PySem PySem.Spec PyProof.Rows L2
mutual
theorem W.beq_eq : ∀ {a b : W}, W.beq a b = true → a = b
  | .non, b, h => by cases b <;> first | rfl | cases h
  | .bl x, b, h => by cases b <;> first | (cases h; done) | (unfold W.beq at h; rw [eq_of_beq h])
  | .int x, b, h => by cases b <;> first | (cases h; done) | (unfold W.beq at h; rw [of_decide_eq_true h])
  | .str x, b, h => by cases b <;> first | (cases h; done) | (unfold W.beq at h; rw [of_decide_eq_true h])
  | .tup x, b, h => by cases b <;> first | (cases h; done) | (unfold W.beq at h; rw [W.beqL_eq h])
  | .lst x, b, h => by cases b <;> first | (cases h; done) | (unfold W.beq at h; rw [W.beqL_eq h])
  | .dct x, b, h => by cases b <;> first | (cases h; done) | (unfold W.beq at h; rw [W.beqK_eq h])
  | .ref x, b, h => by cases b <;> first | (cases h; done) | (unfold W.beq at h; rw [eq_of_beq h])
  | .scr x, b, h => by cases b <;> first | (cases h; done) | (unfold W.beq at h; rw [of_decide_eq_true h])
theorem W.beqL_eq : ∀ {a b : List W}, W.beqL a b = true → a = b
  | [], [], _ => rfl
  | [], _ :: _, h => by cases h
  | _ :: _, [], h => by cases h
  | a :: as, b :: bs, h => by
    unfold W.beqL at h
    rw [Bool.and_eq_true] at h
    rw [W.beq_eq h.1, W.beqL_eq h.2]
theorem W.beqK_eq : ∀ {a b : List (Key × W)}, W.beqK a b = true → a = b
  | [], [], _ => rfl
  | [], _ :: _, h => by cases h
  | _ :: _, [], h => by cases h
  | (k, a) :: as, (l, b) :: bs, h => by
    unfold W.beqK at h
    simp only [Bool.and_eq_true] at h
    rw [of_decide_eq_true h.1, W.beq_eq h.2.1, W.beqK_eq h.2.2]
end
theorem beqF_eq : ∀ {a b : List (Str × W)}, beqF a b = true → a = b
  | [], [], _ => rfl
  | [], _ :: _, h => by cases h
  | _ :: _, [], h => by cases h
  | (k, a) :: as, (l, b) :: bs, h => by
    unfold beqF at h
    simp only [Bool.and_eq_true] at h
    rw [of_decide_eq_true h.1, W.beq_eq h.2.1, beqF_eq h.2.2]
theorem O.beq_eq : ∀ {a b : O}, O.beq a b = true → a = b
  | .lst x, b, h => by cases b <;> first | (cases h; done) | (unfold O.beq at h; rw [W.beqL_eq h])
  | .dct x, b, h => by cases b <;> first | (cases h; done) | (unfold O.beq at h; rw [W.beqK_eq h])
  | .ins c x, b, h => by
    cases b <;> first | (cases h; done) | skip
    unfold O.beq at h
    rw [Bool.and_eq_true] at h
    rw [of_decide_eq_true h.1, beqF_eq h.2]
  | .dead, b, h => by cases b <;> first | rfl | cases h
section
variable {K : PySem.W.Frag} {cA : Str → Addr} {H H' H1 H2 : Hp} {ρ ρ' ρ1 ρ2 : Rho} {s : Sto} {σ σ2 : L2.St} {h h' h2 : Hq}
mutual
theorem RW.fits : ∀ {w : W} {v : V}, RW K H ρ w v → W.fits ρ.length w = true
  | _, _, .non => rfl
  | _, _, .bl _ => rfl
  | _, _, .int _ => rfl
  | _, _, .str _ => rfl
  | _, _, .tup _ r => by unfold W.fits; exact RWs.fits r
  | _, _, .lst _ _ r => by unfold W.fits; exact RWs.fits r
  | _, _, .dct _ _ r => by unfold W.fits; exact RWk.fits r
  | _, _, .ref e _ => by unfold W.fits; exact decide_eq_true (List.getElem?_eq_some_iff.mp e).1
  | _, _, .scrF _ _ => rfl
  | _, _, .scrK _ => rfl
theorem RWs.fits : ∀ {w : List W} {v : List V}, RWs K H ρ w v → W.fitsL ρ.length w = true
  | _, _, .nil => rfl
  | _, _, .cons a b => by unfold W.fitsL; rw [RW.fits a, RWs.fits b]; rfl
theorem RWk.fits : ∀ {w : List (Key × W)} {v : List (Key × V)}, RWk K H ρ w v → W.fitsK ρ.length w = true
  | _, _, .nil => rfl
  | _, _, .cons a b => by unfold W.fitsK; rw [RW.fits a, RWk.fits b]; rfl
end
theorem RWf.fits : ∀ {w : List (Str × W)} {v : List (Str × V)}, RWf K H ρ w v → fitsF ρ.length w = true
  | _, _, .nil => rfl
  | _, _, .cons a b => by unfold fitsF; rw [RW.fits a, RWf.fits b]; rfl
theorem NotTr.take {a : Addr} {n : Nat} (h : NotTr ρ a) : NotTr (ρ.take n) a := fun i e => by
  rw [List.getElem?_take] at e
  split at e
  · exact h i e
  · cases e
mutual
theorem RW.take (n : Nat) : ∀ {w : W} {v : V}, RW K H ρ w v → W.fits n w = true → RW K H (ρ.take n) w v
  | _, _, .non, _ => .non
  | _, _, .bl _, _ => .bl _
  | _, _, .int _, _ => .int _
  | _, _, .str _, _ => .str _
  | _, _, .tup h r, f => by unfold W.fits at f; exact .tup h (RWs.takeN n r f)
  | _, _, .lst h m r, f => by unfold W.fits at f; exact .lst h m.take (RWs.takeN n r f)
  | _, _, .dct h m r, f => by unfold W.fits at f; exact .dct h m.take (RWk.takeN n r f)
  | _, _, .ref e hv, f => by
    unfold W.fits at f
    exact .ref (by rw [List.getElem?_take, if_pos (of_decide_eq_true f)]; exact e) hv
  | _, _, .scrF h m, _ => .scrF h m.take
  | _, _, .scrK h, _ => .scrK h
theorem RWs.takeN (n : Nat) : ∀ {w : List W} {v : List V}, RWs K H ρ w v → W.fitsL n w = true → RWs K H (ρ.take n) w v
  | _, _, .nil, _ => .nil
  | _, _, .cons a b, f => by
    unfold W.fitsL at f
    rw [Bool.and_eq_true] at f
    exact .cons (RW.take n a f.1) (RWs.takeN n b f.2)
theorem RWk.takeN (n : Nat) : ∀ {w : List (Key × W)} {v : List (Key × V)}, RWk K H ρ w v → W.fitsK n w = true → RWk K H (ρ.take n) w v
  | _, _, .nil, _ => .nil
  | _, _, .cons a b, f => by
    unfold W.fitsK at f
    rw [Bool.and_eq_true] at f
    exact .cons (RW.take n a f.1) (RWk.takeN n b f.2)
end
theorem RWf.takeN (n : Nat) : ∀ {w : List (Str × W)} {v : List (Str × V)}, RWf K H ρ w v → fitsF n w = true → RWf K H (ρ.take n) w v
  | _, _, .nil, _ => .nil
  | _, _, .cons a b, f => by
    unfold fitsF at f
    rw [Bool.and_eq_true] at f
    exact .cons (RW.take n a f.1) (RWf.takeN n b f.2)
theorem RO.fits {a : Addr} : ∀ {o : O}, RO K cA H ρ a o → O.fits ρ.length o = true
  | .lst ws, ⟨_, _, r⟩ => r.fits
  | .dct ws, ⟨_, _, r⟩ => r.fits
  | .ins c fs, ⟨_, _, _, r⟩ => r.fits
  | .dead, h => h.elim
theorem RO.take {a : Addr} (n : Nat) : ∀ {o : O}, RO K cA H ρ a o → O.fits n o = true → RO K cA H (ρ.take n) a o
  | .lst ws, ⟨vs, q, r⟩, f => ⟨vs, q, r.takeN n f⟩
  | .dct ws, ⟨vs, q, r⟩, f => ⟨vs, q, r.takeN n f⟩
  | .ins c fs, ⟨dx, fus, q, r⟩, f => ⟨dx, fus, q, r.takeN n f⟩
  | .dead, h, _ => h.elim
theorem preOk_at {n : Nat} : ∀ {h h' : Hq}, preOk n h h' = true → h.length ≤ h'.length ∧ ∀ (i : Nat) (a b : O), h[i]? = some a → h'[i]? = some b → a = b ∨ O.fits n b = true
  | [], h', _ => ⟨by simp, fun i a b e _ => by simp at e⟩
  | a :: as, [], q => by cases q
  | a :: as, b :: bs, q => by
    unfold preOk at q
    simp only [Bool.and_eq_true, Bool.or_eq_true] at q
    obtain ⟨l, f⟩ := preOk_at q.2
    refine ⟨by simpa using l, fun i x y e1 e2 => ?_⟩
    cases i with
    | zero =>
      simp at e1 e2; subst e1 e2
      exact q.1.imp O.beq_eq id
    | succ i => exact f i x y (by simpa using e1) (by simpa using e2)
theorem Ext.take (e : Ext H ρ H2 ρ2) : Ext H ρ H2 (ρ2.take ρ.length) where
  len := by rw [List.length_take]; have := e.len; omega
  old := fun i a hi q => e.old i a hi (by rw [List.getElem?_take, if_pos hi] at q; exact q)
  new := fun i a hi q => by rw [List.getElem?_take, if_neg (by omega)] at q; cases q
  keep := e.keep
  stay := e.stay
theorem Rep.trimmed (r : Rep K cA ρ h H) (r2 : Rep K cA ρ2 h2 H2) (e : Ext H ρ H2 ρ2) (q : preOk h.length h h2 = true) : Rep K cA (ρ2.take ρ.length) (h2.take h.length) H2 where
  len := by rw [List.length_take, List.length_take, r.len, r2.len]
  obj := fun i o a e1 e2 => by
    rw [List.getElem?_take] at e1 e2
    split at e1
    · rename_i hi
      rw [if_pos (by rw [r.len]; exact hi)] at e2
      have ro := r2.obj i o a e1 e2
      refine RO.take _ ro ?_
      obtain ⟨_, f⟩ := preOk_at q
      rcases f i h[i] o (List.getElem?_eq_getElem hi) e1 with z | z
      · subst z
        have ea := e.old i a (by rw [r.len]; exact hi) e2
        exact (r.obj i _ a (List.getElem?_eq_getElem hi) ea).fits
      · rw [r.len]; exact z
    · cases e1
  live := fun i o e1 hd => by
    rw [List.getElem?_take] at e1
    split at e1
    · rename_i hi
      obtain ⟨a, q⟩ := r2.live i o e1 hd
      exact ⟨a, by rw [List.getElem?_take, if_pos (by rw [r.len]; exact hi)]; exact q⟩
    · cases e1
  inj := fun i j a e1 e2 => by
    rw [List.getElem?_take] at e1 e2
    split at e1
    · split at e2
      · exact r2.inj i j a e1 e2
      · cases e2
    · cases e1
theorem trim_ok (r : Rep K cA ρ h H) (r2 : Rep K cA ρ2 h2 H2) (e : Ext H ρ H2 ρ2) : ∃ ρ3, Rep K cA ρ3 (trim h h2) H2 ∧ Ext H ρ H2 ρ3 ∧ (∀ w v, W.fits h.length w = true → RW K H2 ρ2 w v → RW K H2 ρ3 w v) := by
  unfold trim
  split
  · rename_i q
    exact ⟨_, r.trimmed r2 e q, e.take, fun w v f rw => rw.take _ (by rw [r.len]; exact f)⟩
  · exact ⟨ρ2, r2, e, fun _ _ _ r => r⟩
theorem OutC.exit1 {Q : VK} {E : XK} {r : R W} (rep : Rep K cA ρ h H) (o : OutC K cA H ρ Q E (MP.exit1 h r)) : OutC K cA H ρ Q E r := by
  cases r with
  | ok w h2 =>
    intro H2 ρ2 r2 e v rw
    unfold MP.exit1 at o
    dsimp only at o
    split at o
    · rename_i f
      obtain ⟨ρ3, r3, e3, f3⟩ := trim_ok rep r2 e
      exact o H2 ρ3 r3 e3 v (f3 w v f rw)
    · exact o H2 ρ2 r2 e v rw
  | exc c h2 =>
    intro H2 ρ2 r2 e
    obtain ⟨ρ3, r3, e3, _⟩ := trim_ok rep r2 e
    exact o H2 ρ3 r3 e3
  | bad => exact o
end
/-! ### functions -/
theorem rst_start {K : PySem.W.Frag} {H : Hp} {ρ : Rho} {N : List Str} {ws : List W} {vs : List V} (r : RWs K H ρ ws vs) : RSt K H ρ (ws.map some ++ List.replicate (N.length - ws.length) none) (L2.start N vs) := by
  unfold L2.start
  refine ⟨by simp [r.length], fun i w e => ?_⟩
  by_cases hi : i < ws.length
  · rw [List.getElem?_append_left (by simpa using hi), List.getElem?_map] at e
    cases e1 : ws[i]? with
    | none => rw [e1] at e; cases e
    | some w' =>
      rw [e1] at e; cases e
      obtain ⟨v, h1, h2⟩ := r.get e1
      exact ⟨v, by rw [List.getElem?_append_left (by simpa [← r.length] using hi), List.getElem?_map, h1]; rfl, h2⟩
  · rw [List.getElem?_append_right (by simpa using hi), List.getElem?_replicate] at e
    split at e <;> cases e
theorem binds_all {K : PySem.W.Frag} {fd : FuncData} {ps : List Str} (h : ∀ (s : Shared) (us : List Value), us.length = ps.length → BindsTo s fd ⟨us, []⟩ (ps.zip us)) : Binds K fd ps [] := fun s us _ hl => by
  rw [List.append_nil] at hl ⊢
  exact h s us hl
/-- a def, checked -/
structure DefOk (K : PySem.W.Frag) (mg : Str → Option Value) (fns exs : List Str) (f : Str) (fd : Fd) (ps : List Str) : Prop where
  ex : ∃ (fa : Addr) (name qual : Str) (params : Arguments) (body : List Stmt) (scope : Scope) (dV kV doc pm cdv ct oc : Value) (an od : Option Addr) (osl : Array (Option Value)) (N : List Str),
    mg f = some (.ref fa) ∧ PySem.W.keepIn K (.ref fa) = true ∧ K.lookup fa = some ⟨oc, od, .func (PySem.W.fnOf name qual params body scope dV kV doc pm an cdv ct), osl⟩ ∧ PySem.W.codeIn K cdv qual = true ∧ FnScope N ps scope ∧
    (∀ (s : Shared) (us : List Value), us.length = ps.length → BindsTo s (PySem.W.fnOf name qual params body scope dV kV doc pm an cdv ct) ⟨us, []⟩ (ps.zip us)) ∧ ps.length = fd.np ∧ N.length = fd.ns ∧ okSs ⟨N, scope, fun _ => true, fns, exs⟩ fd.body body = true
theorem fn_at {prog : Program} {w : World} {K : PySem.W.Frag} {mg : Str → Option Value} {base : Heap} {cA : Str → Addr} {fns exs : List Str} {G : Gam} {k : Nat} {fd : Fd} {ps : List Str} {fa : Addr} {name qual : Str} {params : Arguments} {body : List Stmt} {scope : Scope} {dV kV doc pm cdv ct oc : Value} {an od : Option Addr}
    {osl : Array (Option Value)} {N : List Str} (h3 : K.lookup fa = some ⟨oc, od, .func (PySem.W.fnOf name qual params body scope dV kV doc pm an cdv ct), osl⟩) (h4 : PySem.W.codeIn K cdv qual = true) (S : FnScope N ps scope) (h6 : ps.length = fd.np) (h7 : N.length = fd.ns)
    (h8 : okSs ⟨N, scope, fun _ => true, fns, exs⟩ fd.body body = true) (g : Gok prog w K mg base cA fns exs G k) :
    FnOk prog w K mg base (L2.CX prog w) (k + 1) fa (PySem.W.fnOf name qual params body scope dV kV doc pm an cdv ct) ps (spW K cA (runF G fd)) := by
  refine fn_of h3 h4 S (fun vs H Q E ⟨ws, h, ρ, rep, rws, o⟩ => ?_) fun A outer s H vs Q E hr ⟨ws, h, ρ, rep, rws, o⟩ => ?_
  · rw [← rws.length]
    have o2 := OutC.exit1 rep o
    unfold runB at o2
    split at o2
    · rename_i e; rw [e, h6]
    · exact o2.elim
  · have o2 := OutC.exit1 rep o
    unfold runB at o2
    split at o2
    · rename_i hl
      have gd : Gd (cxOf (L2.CX prog w) prog w K mg base N qual scope fa cdv A outer s H E) (fun cls d _ H => E cls d H) ⟨N, scope, fun _ => true, fns, exs⟩ cA G k :=
        ⟨rfl, S.nd, rfl, fun _ _ => rfl, S.kind, rfl, hr, takes_of rfl rfl rfl rfl, g⟩
      refine ⟨_, sSs ⟨gd, passes_of rfl⟩ h8, _, h, ρ, rep, rst_start rws, ?_⟩
      rw [← h7] at o2
      cases e : evSs G fd.body (ws.map some ++ List.replicate (N.length - ws.length) none) h with
      | rt w h2 => rw [e] at o2; exact o2
      | nx s2 h2 => rw [e] at o2; exact fun σ' H' ρ' r ex rs => o2 H' ρ' r ex _ .non
      | exc c s2 h2 => rw [e] at o2; exact fun σ' H' ρ' r ex rs => o2 H' ρ' r ex
      | bk s2 h2 => rw [e] at o2; exact o2.elim
      | ct s2 h2 => rw [e] at o2; exact o2.elim
      | bad => rw [e] at o2; exact o2.elim
    · exact o2.elim
theorem fn_ok {prog : Program} {w : World} {K : PySem.W.Frag} {mg : Str → Option Value} {base : Heap} {cA : Str → Addr} {fns exs : List Str} {G : Gam} {k : Nat} {f : Str} {fd : Fd} {ps : List Str} (d : DefOk K mg fns exs f fd ps) (g : Gok prog w K mg base cA fns exs G k) :
    ∃ fa fd0, mg f = some (.ref fa) ∧ PySem.W.keepIn K (.ref fa) = true ∧ (∀ (s : Shared) (us : List Value), us.length = ps.length → BindsTo s fd0 ⟨us, []⟩ (ps.zip us)) ∧ FnOk prog w K mg base (L2.CX prog w) (k + 1) fa fd0 ps (spW K cA (runF G fd)) := by
  obtain ⟨fa, name, qual, params, body, scope, dV, kV, doc, pm, cdv, ct, oc, an, od, osl, N, h1, h2, h3, h4, S, h5, h6, h7, h8⟩ := d.ex
  exact ⟨fa, _, h1, h2, h5, fn_at h3 h4 S h6 h7 h8 g⟩
/-- a promise that is never called on -/
theorem fn_bad {prog : Program} {w : World} {K : PySem.W.Frag} {mg : Str → Option Value} {base : Heap} {cA : Str → Addr} {CX : CXT} {k : Nat} {fa : Addr} {fd : FuncData} {ps : List Str} : FnOk prog w K mg base CX k fa fd ps (spW K cA fun _ _ => .bad) :=
  ⟨fun vs H Q E ⟨ws, h, ρ, rep, rws, o⟩ => o.elim, fun A outer s H args us vs Q E hr e0 hb hv ⟨ws, h, ρ, rep, rws, o⟩ => o.elim⟩
/-- what the head must give -/
structure ProgOk (K : PySem.W.Frag) (mg : Str → Option Value) (cA : Str → Addr) (exs : List Str) (P : Prog) : Prop where
  con : ∀ x a, P.con.lookup x = some a → ∃ v u, mg x = some u ∧ RelV v u ∧ ∀ H ρ, RW K H ρ a v
  blt : ∀ x ∈ bltN, mg x = none
  fns : ∀ p ∈ P.fns, ∃ ps, DefOk K mg (P.fns.map (·.1)) exs p.1 p.2 ps
  exc : ∀ c ∈ exs, ∃ bmB B newId initId, ExcBaseFacts B newId initId bmB ∧ PySem.W.excIn K (cA c) bmB newId = true ∧ mg c = some (.ref (cA c)) ∧ PySem.W.keepIn K (.ref (cA c)) = true ∧
    PySem.W.subIn K (.ref (cA c)) (.type "BaseException") = some true ∧ PySem.W.typeIn K (.ref (cA c)) = some (.type "type")
theorem lookup_mem : ∀ {α : Type} {l : List (Str × α)} {f : Str} {a : α}, l.lookup f = some a → (f, a) ∈ l
  | _, [], _, _, h => by cases h
  | _, (g, b) :: l, f, a, h => by
    rw [List.lookup_cons] at h
    cases e : f == g with
    | true => rw [e] at h; cases h; rw [eq_of_beq e]; simp
    | false => rw [e] at h; exact List.mem_cons_of_mem _ (lookup_mem h)
theorem lookup_of_mem : ∀ {α : Type} {l : List (Str × α)} {f : Str}, f ∈ l.map (·.1) → ∃ a, l.lookup f = some a
  | _, [], _, h => by cases h
  | _, (g, b) :: l, f, h => by
    rw [List.lookup_cons]
    cases e : f == g with
    | true => exact ⟨b, rfl⟩
    | false =>
      rw [List.map_cons, List.mem_cons] at h
      rcases h with h | h
      · exact absurd e (by simp [h])
      · exact lookup_of_mem h
theorem gok_all {prog : Program} {w : World} {K : PySem.W.Frag} {mg : Str → Option Value} {base : Heap} {cA : Str → Addr} {exs : List Str} {P : Prog} (p : ProgOk K mg cA exs P) : ∀ n : Nat, Gok prog w K mg base cA (P.fns.map (·.1)) exs (gam P n) n
  | 0 => ⟨p.con, p.blt, fun f hf => by
      obtain ⟨fd, e⟩ := lookup_of_mem hf
      obtain ⟨ps, d⟩ := p.fns _ (lookup_mem e)
      obtain ⟨fa, name, qual, params, body, scope, dV, kV, doc, pm, cdv, ct, oc, an, od, osl, N, h1, h2, h3, h4, S, h5, h6, h7, h8⟩ := d.ex
      exact ⟨fa, _, ps, h1, h2, binds_all h5, fn_bad⟩, p.exc⟩
  | n + 1 => ⟨p.con, p.blt, fun f hf => by
      obtain ⟨fd, e⟩ := lookup_of_mem hf
      obtain ⟨ps, d⟩ := p.fns _ (lookup_mem e)
      obtain ⟨fa, fd0, h1, h2, h3, h4⟩ := fn_ok d (gok_all (prog := prog) (w := w) (base := base) p n)
      refine ⟨fa, fd0, ps, h1, h2, binds_all h3, ?_⟩
      have ee : (gam P (n + 1)).fn f = runF (gam P n) fd := by
        funext ws h
        show (match P.fns.lookup f with | some fd => runF (gam P n) fd ws h | none => .bad) = _
        rw [e]
      rw [ee]
      exact h4, p.exc⟩
end MP
set_option Elab.async false
set_option linter.all false
set_option maxRecDepth 100000
set_option maxHeartbeats 4000000
/-! MP23: from a head's facts to a checked program. -/
namespace MP
open PySem PySem.Spec PyProof.Rows L2
theorem zip_lookup : ∀ {ps : List Str} {us : List Value}, us.length = ps.length → ∀ n ∈ ps, ((ps.zip us).lookup n).isNone = false
  | [], _, _, _, h => by cases h
  | p :: ps, [], h, _, _ => by simp at h
  | p :: ps, u :: us, hl, n, h => by
    rw [List.zip_cons_cons, List.lookup_cons]
    cases e : n == p with
    | true => rfl
    | false =>
      rcases List.mem_cons.mp h with z | z
      · exact absurd e (by simp [z])
      · exact zip_lookup (by simpa using hl) n z
theorem zip_map : ∀ {ps : List Str} {us : List Value} (pre : List (Str × Value)), us.length = ps.length → ps.Nodup → (∀ n ∈ ps, ∀ q ∈ pre, q.1 ≠ n) → (ps.filterMap fun n => ((pre ++ ps.zip us).lookup n).map (n, ·)) = ps.zip us
  | [], _, _, _, _, _ => rfl
  | p :: ps, [], _, h, _, _ => by simp at h
  | p :: ps, u :: us, pre, hl, nd, hp => by
    rw [List.nodup_cons] at nd
    have e0 : ∀ (l : List (Str × Value)) (r : List (Str × Value)) (n : Str), (∀ q ∈ l, q.1 ≠ n) → (l ++ r).lookup n = r.lookup n := by
      intro l
      induction l with
      | nil => intro r n _; rfl
      | cons q l ih =>
        intro r n h
        have h1 : (n == q.1) = false := by simpa using Ne.symm (h q (by simp))
        rw [List.cons_append]
        show List.lookup n ((q.1, q.2) :: (l ++ r)) = _
        rw [List.lookup_cons, h1]
        exact ih r n fun z hz => h z (by simp [hz])
    have e1 : (pre ++ (p :: ps).zip (u :: us)).lookup p = some u := by
      rw [e0 pre _ p (hp p (by simp)), List.zip_cons_cons, List.lookup_cons]
      simp
    rw [List.filterMap_cons, e1]
    simp only [Option.map_some]
    rw [List.zip_cons_cons]
    congr 1
    have ih := zip_map (pre ++ [(p, u)]) (us := us) (ps := ps) (by simpa using hl) nd.2 (fun n hn q hq => by
      rcases List.mem_append.mp hq with z | z
      · exact hp n (by simp [hn]) q z
      · rw [List.mem_singleton.mp z]
        rintro rfl
        exact nd.1 hn)
    rw [List.append_assoc] at ih
    exact ih
def plainArgs (a : Arguments) : Bool := a.posonlyargs.isEmpty && (a.vararg.isNone && (a.kwonlyargs.isEmpty && (a.kw_defaults.isEmpty && (a.kwarg.isNone && (a.defaults.isEmpty && decide (a.args.map (·.arg)).Nodup)))))
theorem bind_plain {name qual : Str} {params : Arguments} {body : List Stmt} {scope : Scope} {kV doc pm cdv ct : Value} {an : Option Addr} (h : plainArgs params = true) {us : List Value} (hl : us.length = (params.args.map (·.arg)).length) :
    bindArgs (PySem.W.fnOf name qual params body scope .none kV doc pm an cdv ct) ⟨us, []⟩ = pure ((params.args.map (·.arg)).zip us) := by
  obtain ⟨po, ar, va, ko, kd, kw, df⟩ := params
  unfold plainArgs at h
  simp only [Bool.and_eq_true, List.isEmpty_iff, Option.isNone_iff_eq_none, decide_eq_true_eq] at h
  obtain ⟨h1, h2, h3, h4, h5, h6, h7⟩ := h
  subst h1 h2 h3 h4 h5 h6
  have e1 := zip_map (ps := ar.map (·.arg)) (us := us) [] hl h7 (fun _ _ q hq => by cases hq)
  have e2 : ((ar.map (·.arg)).filter fun n => (((ar.map (·.arg)).zip us).lookup n).isNone) = [] := by
    rw [List.filter_eq_nil_iff]
    intro n hn
    rw [zip_lookup hl n hn]
    exact Bool.false_ne_true
  have e3 : seqItems? Value.none = pure none := rfl
  have e4 : us.length = ar.length := by simpa using hl
  simp only [List.nil_append] at e1
  unfold bindArgs PySem.W.fnOf
  simp [e3, e4, List.take_of_length_le]
  rw [List.filterMap_map] at e1
  split
  · rename_i hh
    simp only [List.map_nil, List.nil_append, List.drop_nil, List.length_nil, Nat.sub_zero, List.take_length, e2] at hh
    cases hh
  · rw [e1]
/-! ### the program of a head -/
/-- a module's def by its head's entry, with slots' names -/
structure Row where
  d : He.DefD
  fd : Fd
  N : List Str
def rowB (fns exs : List Str) (r : Row) : Bool :=
  r.d.at_.2.isNone && (r.d.dfl.isEmpty && (r.d.kwd.isEmpty && (plainArgs r.d.params && (decide ((r.d.params.args.map (·.arg)).length = r.fd.np) && (decide (r.N.length = r.fd.ns) &&
    (decide (r.d.scope.kind = .function) && (!r.d.scope.isCoroutine && (!r.d.scope.isGenerator && (decide r.N.Nodup && (decide (r.N.take (r.d.params.args.map (·.arg)).length = r.d.params.args.map (·.arg)) &&
      (((r.d.params.args.map (·.arg)).all fun x => r.d.scope.names.lookup x == some .local || r.d.scope.names.lookup x == some .cell) && ((r.d.scope.names.all fun y => !(y.2 == .free)) &&
        okSs ⟨r.N, r.d.scope, fun _ => true, fns, exs⟩ r.fd.body r.d.body))))))))))))
theorem row_ok {K : PySem.W.Frag} {h : Heap} {mg : Str → Option Value} {fns exs : List Str} {fa : List He.Fa} {fn : List He.DefD} (X : K.In h) (G : h.Ns mainGlobals mg) (c : He.SaysD fa fn K) {r : Row} (i j : Nat) (hi : fn[i]? = some r.d) (hj : fa[j]? = some (.glo r.d.at_.1)) (hB : rowB fns exs r = true) :
    DefOk K mg fns exs r.d.at_.1 r.fd (r.d.params.args.map (·.arg)) := by
  unfold rowB at hB
  simp only [Bool.and_eq_true, decide_eq_true_eq, Bool.not_eq_true', List.all_eq_true, Bool.or_eq_true, beq_iff_eq, beq_eq_false_iff_ne, List.isEmpty_iff, Option.isNone_iff_eq_none] at hB
  obtain ⟨b1, b2, b3, b4, b5, b6, b7, b8, b9, b10, b11, b12, b13, b14⟩ := hB
  obtain ⟨fd0, F⟩ := c.def_ i hi
  have e1 : r.d.dvs K = [] := by unfold He.DefD.dvs; rw [b2]; rfl
  rw [e1] at F
  have g1 := He.glo_ok X G (c.fact j hj)
  have eA : He.fAd K r.d.at_ = He.ga K r.d.at_.1 := by unfold He.fAd; rw [b1]
  rw [eA] at F
  have hB := FunD.bindsA (ps := r.d.params.args.map (·.arg)) F fun kV doc pm an cdv ct us hl => bind_plain b4 hl
  obtain ⟨oc, od, dV, kV, doc, pm, an, cdv, ct, osl, rfl, lk, hcd, hD, hK⟩ := F.ex
  exact ⟨_, _, _, _, _, _, _, _, _, _, _, _, _, _, _, _, r.N, g1, F.kp, lk, hcd, ⟨b7, b8, b9, b10, b11, b12, b13⟩, hB, b5, b6, b14⟩
/-- the constants -/
inductive Kc where
  | int (i : Int) | str (z : Str)
def Kc.w : Kc → W
  | .int i => .int i
  | .str z => .str z
def Kc.fa (x : Str) : Kc → He.Fa
  | .int i => .int x i
  | .str z => .str x z
theorem kc_ok {K : PySem.W.Frag} {h : Heap} {mg : Str → Option Value} {fa : List He.Fa} {fn : List He.DefD} (X : K.In h) (G : h.Ns mainGlobals mg) (c : He.SaysD fa fn K) (x : Str) (q : Kc) (j : Nat) (hj : fa[j]? = some (q.fa x)) :
    ∃ v u, mg x = some u ∧ RelV v u ∧ ∀ H ρ, RW K H ρ q.w v := by
  cases q with
  | int i =>
    obtain ⟨t, e⟩ := He.int_ok X G (c.fact j hj)
    exact ⟨.int i, _, e, ⟨t, rfl⟩, fun _ _ => .int _⟩
  | str z =>
    obtain ⟨t, e⟩ := He.str_ok X G (c.fact j hj)
    exact ⟨.str z, _, e, ⟨t, rfl⟩, fun _ _ => .str _⟩
theorem toCX0 {P : Program} {w : World} {K : PySem.W.Frag} {mg : Str → Option Value} {base : Heap} {k : Nat} {f : Addr} {fd : FuncData} {ps : List Str} {sp : Sp} (F : FnOk P w K mg base (L2.CX P w) k f fd ps sp) :
    FnOk P w K mg base L2.CX0 k f fd ps (fun vs H Q _ => sp vs H Q fun _ _ _ => False) := by
  refine ⟨fun vs H Q E h => F.len _ _ _ _ h, fun A outer s H args us vs Q E hr e0 hb hv h => ?_⟩
  refine codeAny_mono (F.run A outer s H args us vs Q _ hr e0 hb hv h) fun r s' hq => ?_
  cases r with
  | ok fl => cases fl <;> exact hq
  | error e =>
    obtain ⟨_, _, _, _, _, _, _, _, _, _, _, _, z⟩ := hq
    exact z.elim
/-- all facts of a head -/
structure HeadOk (rows : List Row) (cons : List (Str × Kc)) (exs : List Str) (fa : List He.Fa) (fn : List He.DefD) : Prop where
  fns : ∀ r ∈ rows, ∃ i j : Nat, fn[i]? = some r.d ∧ fa[j]? = some (.glo r.d.at_.1)
  chk : rows.all (rowB (rows.map fun r => r.d.at_.1) exs) = true
  con : ∀ p ∈ cons, ∃ j : Nat, fa[j]? = some (p.2.fa p.1)
  blt : ∀ x ∈ bltN, ∃ j : Nat, fa[j]? = some (.free x)
  exc : ∀ x ∈ exs, ∃ i j : Nat, fa[i]? = some (.exc x) ∧ fa[j]? = some (.glo x)
def progOf (rows : List Row) (cons : List (Str × Kc)) (fuel : Nat) : Prog := ⟨rows.map fun r => (r.d.at_.1, r.fd), [], cons.map fun p => (p.1, p.2.w), fuel⟩
theorem prog_ok {K : PySem.W.Frag} {h : Heap} {mg : Str → Option Value} {rows : List Row} {cons : List (Str × Kc)} {exs : List Str} {fuel : Nat} {fa : List He.Fa} {fn : List He.DefD} (X : K.In h) (G : h.Ns mainGlobals mg) (c : He.SaysD fa fn K) (hk : HeadOk rows cons exs fa fn) :
    ProgOk K mg (He.ga K) exs (progOf rows cons fuel) where
  con := fun x a e => by
    obtain ⟨p, hp, e1⟩ := List.mem_map.mp (lookup_mem e)
    cases e1
    obtain ⟨j, hj⟩ := hk.con p hp
    exact kc_ok X G c _ _ j hj
  blt := fun x hx => by
    obtain ⟨j, hj⟩ := hk.blt x hx
    exact He.free_ok X G (c.fact j hj)
  fns := fun p hp => by
    obtain ⟨r, hr, e⟩ := List.mem_map.mp hp
    subst e
    obtain ⟨i, j, hi, hj⟩ := hk.fns r hr
    have hB := List.all_eq_true.mp hk.chk r hr
    have e : (progOf rows cons fuel).fns.map (·.1) = rows.map fun r => r.d.at_.1 := by
      show (rows.map fun r => (r.d.at_.1, r.fd)).map (·.1) = _
      rw [List.map_map]; rfl
    rw [e]
    exact ⟨_, row_ok X G c i j hi hj hB⟩
  exc := fun x hx => by
    obtain ⟨i, j, hi, hj⟩ := hk.exc x hx
    obtain ⟨c1, c2, c3, c4⟩ := He.exc_ok (c.fact i hi)
    exact ⟨_, _, _, _, PySem.F.excBase_ValueError, c1, He.glo_ok X G (c.fact j hj), c2, c3, c4⟩
/-- THE END: the evaluator says true of every script -/
theorem law_end {P : Program} {w : World} {h : Heap} {mg : Str → Option Value} {rows : List Row} {cons : List (Str × Kc)} {exs : List Str} {fuel : Nat} {fa : List He.Fa} {fn : List He.DefD} {most n : Nat} {fA : Addr} {law x : Str} {r : Row} (hk : HeadOk rows cons exs fa fn)
    (Y : ∃ K : PySem.W.Frag, K.In h ∧ He.SaysD fa fn K) (G : h.Ns mainGlobals mg) (hr : r ∈ rows) (hn : r.d.at_.1 = law) (hx : r.d.params.args.map (·.arg) = [x]) (hf : mg law = some (.ref fA))
    (T : ∀ ns : List Int, ns.length ≤ most → ∃ h', runF (gam (progOf rows cons fuel) n) r.fd [.scr ns] [] = .ok (.bl true) h') :
    ∃ (K : PySem.W.Frag) (fd : FuncData) (sp : Sp), K.In h ∧ (∀ (s : Shared) (u : Value), BindsTo s fd ⟨[u], []⟩ [(x, u)]) ∧
      (∀ (H : Hp) (a : Addr) (ns : List Int), ns.length ≤ most → Only H → SqL K H a (ns.map V.int) → sp [.ref a] H (fun v _ => v = .bl true) fun _ _ _ => False) ∧
      ∀ base : Heap, K.In base → base.Ns mainGlobals mg → FnOk P w K mg base L2.CX0 (n + 1) fA fd [x] sp := by
  obtain ⟨K, X, c⟩ := Y
  have pk := prog_ok (fuel := fuel) X G c hk
  obtain ⟨i, j, hi, hj⟩ := hk.fns r hr
  have hB := List.all_eq_true.mp hk.chk r hr
  have d := row_ok X G c i j hi hj hB
  have e : (progOf rows cons fuel).fns.map (·.1) = rows.map fun r => r.d.at_.1 := by
    show (rows.map fun r => (r.d.at_.1, r.fd)).map (·.1) = _
    rw [List.map_map]; rfl
  rw [hx] at d
  obtain ⟨fa0, name, qual, params, body, scope, dV, kV, doc, pm, cdv, ct, oc, an, od, osl, N, h1, h2, g3, g4, S, h3, h6, h7, h8⟩ := d.ex
  rw [hn, hf] at h1
  cases h1
  refine ⟨K, _, fun vs H Q _ => spW K (He.ga K) (runF (gam (progOf rows cons fuel) n) r.fd) vs H Q fun _ _ _ => False, X, fun s u => h3 s [u] rfl, fun H a ns hl hO hS => ?_, fun base hKb hGb => ?_⟩
  · obtain ⟨h', eT⟩ := T ns hl
    refine ⟨[.scr ns], [], [], ⟨rfl, fun i o a e _ => by simp at e, fun i o e _ => by simp at e, fun i j a e _ => by simp at e⟩, .cons ?_ .nil, ?_⟩
    · have nt : NotTr ([] : Rho) a := fun i e => by simp at e
      rcases hS with (hS | ⟨o, hS⟩) | hS
      · rcases hO a with z | ⟨o, xs, z⟩
        · rw [z] at hS; cases hS
        · rw [z] at hS; cases hS
      · exact .scrF hS nt
      · exact .scrK hS
    · rw [eT]
      intro H' ρ' _ _ v rw
      cases rw
      rfl
  · exact toCX0 (fn_at g3 g4 S h6 h7 h8 (e ▸ gok_all (prog := P) (w := w) (base := base) pk n))
end MP
set_option Elab.async false
set_option linter.all false
set_option maxRecDepth 100000
set_option maxHeartbeats 4000000
namespace Hd
open PySem PySem.Spec L2 MP
def b_is_number : Ss :=
  (.cons (.ret (.and_ (.isi (.var 0) .int) (.and_ (.not_ (.isi (.var 0) .bl)) (.chain .le .le (.var 1) (.var 0) (.var 2)))))
  .nil)
def fd_is_number : Fd := ⟨3, 3, b_is_number⟩
def nm_is_number : List PySem.Str := ["value", "least", "most"]
def b_is_text : Ss :=
  (.cons (.ret (.and_ (.isi (.var 0) .str) (.and_ (.cmp .le (.b1 .len (.var 0)) (.cst (.int 12))) (.b1 .all_ (.lc [("sign", 1)] (.name 1) .one (.cons (.var 0) .nil) .no (.cmp .isin (.var 1) (.glb "LETTERS")))))))
  .nil)
def fd_is_text : Fd := ⟨1, 2, b_is_text⟩
def nm_is_text : List PySem.Str := ["value", "sign"]
def b_is_name : Ss :=
  (.cons (.ret (.and_ (.call "is_text" (.cons (.var 0) .nil)) (.chain .le .le (.cst (.int 1)) (.b1 .len (.var 0)) (.cst (.int 8)))))
  .nil)
def fd_is_name : Fd := ⟨1, 1, b_is_name⟩
def nm_is_name : List PySem.Str := ["value"]
def b_is_pair : Ss :=
  (.cons (.ret (.and_ (.isi (.var 0) .tup) (.cmp .eq (.b1 .len (.var 0)) (.cst (.int 2)))))
  .nil)
def fd_is_pair : Fd := ⟨1, 1, b_is_pair⟩
def nm_is_pair : List PySem.Str := ["value"]
def b_ascending : Ss :=
  (.cons (.ret (.b1 .all_ (.lc [("one", 1), ("other", 2)] (.tup (.cons (.name 1) (.cons (.name 2) .nil))) .zip (.cons (.var 0) (.cons (.slc (.var 0) (.yes (.cst (.int 1))) .no) .nil)) .no (.cmp .lt (.var 1) (.var 2)))))
  .nil)
def fd_ascending : Fd := ⟨1, 3, b_ascending⟩
def nm_ascending : List PySem.Str := ["values", "one", "other"]
def b_is_machine : Ss :=
  (.cons (.ife (.or_ (.not_ (.isi (.var 0) .tup)) (.or_ (.cmp .gt (.b1 .len (.var 0)) (.glb "MOST_PAIRS")) (.not_ (.b1 .all_ (.lc [("pair", 3)] (.name 3) .one (.cons (.var 0) .nil) .no (.call "is_pair" (.cons (.var 3) .nil)))))))
  (.cons (.ret (.cst (.bl false)))
  .nil)
  .nil)
  (.cons (.ife (.not_ (.b1 .all_ (.lc [("file", 1), ("text", 2)] (.tup (.cons (.name 1) (.cons (.name 2) .nil))) .one (.cons (.var 0) .nil) .no (.and_ (.call "is_name" (.cons (.var 1) .nil)) (.call "is_text" (.cons (.var 2) .nil))))))
  (.cons (.ret (.cst (.bl false)))
  .nil)
  .nil)
  (.cons (.ret (.call "ascending" (.cons (.lc [("file", 1), ("text", 2)] (.tup (.cons (.name 1) (.cons (.name 2) .nil))) .one (.cons (.var 0) .nil) .no (.var 1)) .nil)))
  .nil)))
def fd_is_machine : Fd := ⟨1, 4, b_is_machine⟩
def nm_is_machine : List PySem.Str := ["value", "file", "text", "pair"]
def b_is_names : Ss :=
  (.cons (.ife (.or_ (.not_ (.isi (.var 0) .tup)) (.or_ (.cmp .gt (.b1 .len (.var 0)) (.var 1)) (.not_ (.b1 .all_ (.lc [("name", 2)] (.name 2) .one (.cons (.var 0) .nil) .no (.call "is_name" (.cons (.var 2) .nil)))))))
  (.cons (.ret (.cst (.bl false)))
  .nil)
  .nil)
  (.cons (.ret (.call "ascending" (.cons (.var 0) .nil)))
  .nil))
def fd_is_names : Fd := ⟨2, 3, b_is_names⟩
def nm_is_names : List PySem.Str := ["value", "most", "name"]
def b_is_service : Ss :=
  (.cons (.ret (.and_ (.call "is_pair" (.cons (.var 0) .nil)) (.and_ (.call "is_name" (.cons (.idx (.var 0) (.cst (.int 0))) .nil)) (.call "is_names" (.cons (.idx (.var 0) (.cst (.int 1))) (.cons (.cst (.int 4)) .nil))))))
  .nil)
def fd_is_service : Fd := ⟨1, 1, b_is_service⟩
def nm_is_service : List PySem.Str := ["value"]
def b_kinds : Ss :=
  (.cons (.ife (.or_ (.not_ (.isi (.var 0) .tup)) (.or_ (.cmp .eq (.var 0) (.tup .nil)) (.not_ (.isi (.idx (.var 0) (.cst (.int 0))) .str))))
  (.cons (.ret (.cst .non))
  .nil)
  .nil)
  (.cons (.asg (.t (.name 2)) (.bm .dget (.var 1) (.cons (.idx (.var 0) (.cst (.int 0))) (.cons (.cst .non) .nil))))
  (.cons (.ret (.ite (.and_ (.cmp .notn (.var 2) (.cst .non)) (.cmp .eq (.bin .add (.b1 .len (.var 2)) (.cst (.int 1))) (.b1 .len (.var 0)))) (.var 2) (.cst .non)))
  .nil)))
def fd_kinds : Fd := ⟨2, 3, b_kinds⟩
def nm_kinds : List PySem.Str := ["value", "words", "found"]
def b_is_worded_0 : Ss :=
  (.cons (.asg (.t (.name 6)) (.ite (.cmp .eq (.var 4) (.cst (.str "text"))) (.call "is_text" (.cons (.var 5) .nil)) (.call "is_name" (.cons (.var 5) .nil))))
  (.cons (.ife (.cmp .eq (.var 4) (.cst (.str "index")))
  (.cons (.asg (.t (.name 6)) (.call "is_number" (.cons (.var 5) (.cons (.cst (.int 0)) (.cons (.glb "MOST_STEPS") .nil)))))
  .nil)
  .nil)
  (.cons (.ife (.or_ (.not_ (.var 6)) (.and_ (.cmp .eq (.var 4) (.cst (.str "service"))) (.cmp .notin (.var 5) (.var 2))))
  (.cons (.ret (.cst (.bl false)))
  .nil)
  .nil)
  .nil)))
def b_is_worded : Ss :=
  (.cons (.asg (.t (.name 3)) (.call "kinds" (.cons (.var 0) (.cons (.var 1) .nil))))
  (.cons (.ife (.cmp .isn (.var 3) (.cst .non))
  (.cons (.ret (.cst (.bl false)))
  .nil)
  .nil)
  (.cons (.forS (.tup (.cons (.name 4) (.cons (.name 5) .nil))) .zip (.cons (.var 3) (.cons (.slc (.var 0) (.yes (.cst (.int 1))) .no) .nil)) b_is_worded_0)
  (.cons (.ret (.cst (.bl true)))
  .nil))))
def fd_is_worded : Fd := ⟨3, 7, b_is_worded⟩
def nm_is_worded : List PySem.Str := ["value", "words", "names", "found", "kind", "item", "good"]
def b_is_deed : Ss :=
  (.cons (.asg (.t (.name 2)) (.dsp ["put", "drop", "copy", "restart", "flush"] (.cons (.tup (.cons (.cst (.str "file")) (.cons (.cst (.str "text")) .nil))) (.cons (.tup (.cons (.cst (.str "file")) .nil)) (.cons (.tup (.cons (.cst (.str "file")) (.cons (.cst (.str "file")) .nil))) (.cons (.tup (.cons (.cst (.str "service")) .nil)) (.cons (.tup .nil) .nil)))))))
  (.cons (.ret (.call "is_worded" (.cons (.var 0) (.cons (.var 2) (.cons (.var 1) .nil)))))
  .nil))
def fd_is_deed : Fd := ⟨2, 3, b_is_deed⟩
def nm_is_deed : List PySem.Str := ["value", "names", "words"]
def b_is_condition : Ss :=
  (.cons (.asg (.t (.name 2)) (.dsp ["there", "is", "as", "changed"] (.cons (.tup (.cons (.cst (.str "file")) .nil)) (.cons (.tup (.cons (.cst (.str "file")) (.cons (.cst (.str "text")) .nil))) (.cons (.tup (.cons (.cst (.str "file")) (.cons (.cst (.str "file")) .nil))) (.cons (.tup (.cons (.cst (.str "index")) .nil)) .nil))))))
  (.cons (.ret (.and_ (.call "is_pair" (.cons (.var 0) .nil)) (.and_ (.isi (.idx (.var 0) (.cst (.int 0))) .bl) (.call "is_worded" (.cons (.idx (.var 0) (.cst (.int 1))) (.cons (.var 2) (.cons (.var 1) .nil)))))))
  .nil))
def fd_is_condition : Fd := ⟨2, 3, b_is_condition⟩
def nm_is_condition : List PySem.Str := ["value", "names", "words"]
def b_is_step : Ss :=
  (.cons (.ife (.or_ (.not_ (.isi (.var 0) .tup)) (.or_ (.cmp .ne (.b1 .len (.var 0)) (.cst (.int 3))) (.not_ (.call "is_deed" (.cons (.idx (.var 0) (.cst (.int 0))) (.cons (.var 1) .nil))))))
  (.cons (.ret (.cst (.bl false)))
  .nil)
  .nil)
  (.cons (.ife (.or_ (.not_ (.isi (.idx (.var 0) (.cst (.int 1))) .tup)) (.cmp .gt (.b1 .len (.idx (.var 0) (.cst (.int 1)))) (.cst (.int 6))))
  (.cons (.ret (.cst (.bl false)))
  .nil)
  .nil)
  (.cons (.ife (.or_ (.not_ (.b1 .all_ (.lc [("item", 3)] (.name 3) .one (.cons (.idx (.var 0) (.cst (.int 1))) .nil) .no (.call "is_condition" (.cons (.var 3) (.cons (.var 1) .nil)))))) (.not_ (.call "is_names" (.cons (.idx (.var 0) (.cst (.int 2))) (.cons (.cst (.int 3)) .nil)))))
  (.cons (.ret (.cst (.bl false)))
  .nil)
  .nil)
  (.cons (.ret (.and_ (.b1 .all_ (.lc [("name", 2)] (.name 2) .one (.cons (.idx (.var 0) (.cst (.int 2))) .nil) .no (.cmp .isin (.var 2) (.var 1)))) (.not_ (.and_ (.cmp .eq (.idx (.var 0) (.cst (.int 0))) (.tup (.cons (.cst (.str "flush")) .nil))) (.cmp .ne (.idx (.var 0) (.cst (.int 2))) (.tup .nil))))))
  .nil))))
def fd_is_step : Fd := ⟨2, 4, b_is_step⟩
def nm_is_step : List PySem.Str := ["value", "names", "name", "item"]
def b_keeps_order_0 : Ss :=
  (.cons (.ife (.and_ (.cmp .eq (.idx (.var 6) (.cst (.int 0))) (.cst (.str "changed"))) (.or_ (.cmp .ge (.idx (.var 6) (.cst (.int 1))) (.var 1)) (.cmp .eq (.idx (.idx (.var 0) (.idx (.var 6) (.cst (.int 1)))) (.cst (.int 0))) (.tup (.cons (.cst (.str "flush")) .nil)))))
  (.cons (.ret (.cst (.bl false)))
  .nil)
  .nil)
  .nil)
def b_keeps_order_1 : Ss :=
  (.cons (.forS (.tup (.cons (.name 5) (.cons (.name 6) .nil))) .one (.cons (.var 3) .nil) b_keeps_order_0)
  .nil)
def b_keeps_order : Ss :=
  (.cons (.forS (.tup (.cons (.name 1) (.cons (.tup (.cons (.name 2) (.cons (.name 3) (.cons (.name 4) .nil)))) .nil))) .enum (.cons (.var 0) .nil) b_keeps_order_1)
  (.cons (.ret (.cst (.bl true)))
  .nil))
def fd_keeps_order : Fd := ⟨1, 7, b_keeps_order⟩
def nm_keeps_order : List PySem.Str := ["steps", "at", "deed", "when", "notify", "wanted", "fact"]
def b_files_in_0 : Ss :=
  (.cons (.ife (.cmp .isin (.idx (.var 7) (.cst (.int 0))) (.tup (.cons (.cst (.str "put")) (.cons (.cst (.str "drop")) (.cons (.cst (.str "there")) (.cons (.cst (.str "is")) .nil))))))
  (.cons (.asg (.t (.name 1)) (.bin .add (.var 1) (.lst (.cons (.idx (.var 7) (.cst (.int 1))) .nil))))
  .nil)
  .nil)
  (.cons (.ife (.cmp .isin (.idx (.var 7) (.cst (.int 0))) (.tup (.cons (.cst (.str "copy")) (.cons (.cst (.str "as")) .nil))))
  (.cons (.asg (.t (.name 1)) (.bin .add (.var 1) (.lst (.cons (.idx (.var 7) (.cst (.int 1))) (.cons (.idx (.var 7) (.cst (.int 2))) .nil)))))
  .nil)
  .nil)
  .nil))
def b_files_in_1 : Ss :=
  (.cons (.forS (.name 7) .one (.cons (.bin .add (.lst (.cons (.var 4) .nil)) (.lc [("wanted", 11), ("fact", 12)] (.tup (.cons (.name 11) (.cons (.name 12) .nil))) .one (.cons (.var 5) .nil) .no (.var 12))) .nil) b_files_in_0)
  .nil)
def b_files_in : Ss :=
  (.cons (.asg (.t (.tup (.cons (.name 2) (.cons (.name 3) .nil)))) (.var 0))
  (.cons (.asg (.t (.name 1)) (.lc2 [("name", 9), ("files", 10), ("file", 8)] [8] (.tup (.cons (.name 9) (.cons (.name 10) .nil))) .one (.cons (.var 2) .nil) (.name 8) (.var 10) (.var 8)))
  (.cons (.forS (.tup (.cons (.name 4) (.cons (.name 5) (.cons (.name 6) .nil)))) .one (.cons (.var 3) .nil) b_files_in_1)
  (.cons (.ret (.sset (.var 1)))
  .nil))))
def fd_files_in : Fd := ⟨1, 13, b_files_in⟩
def nm_files_in : List PySem.Str := ["playbook", "found", "services", "steps", "deed", "when", "notify", "row", "file", "name", "files", "wanted", "fact"]
def b_texts_in_0 : Ss :=
  (.cons (.asg (.t (.name 5)) (.bin .add (.lst (.cons (.var 2) .nil)) (.lc [("wanted", 7), ("fact", 8)] (.tup (.cons (.name 7) (.cons (.name 8) .nil))) .one (.cons (.var 3) .nil) .no (.var 8))))
  (.cons (.asg (.t (.name 1)) (.bin .add (.var 1) (.lc [("row", 6)] (.name 6) .one (.cons (.var 5) .nil) (.yes (.cmp .isin (.idx (.var 6) (.cst (.int 0))) (.tup (.cons (.cst (.str "put")) (.cons (.cst (.str "is")) .nil))))) (.idx (.var 6) (.cst (.int 2))))))
  .nil))
def b_texts_in : Ss :=
  (.cons (.asg (.t (.name 1)) (.lst .nil))
  (.cons (.forS (.tup (.cons (.name 2) (.cons (.name 3) (.cons (.name 4) .nil)))) .one (.cons (.idx (.var 0) (.cst (.int 1))) .nil) b_texts_in_0)
  (.cons (.ret (.sset (.var 1)))
  .nil)))
def fd_texts_in : Fd := ⟨1, 9, b_texts_in⟩
def nm_texts_in : List PySem.Str := ["playbook", "found", "deed", "when", "notify", "rows", "row", "wanted", "fact"]
def b_is_playbook : Ss :=
  (.cons (.ife (.or_ (.not_ (.call "is_pair" (.cons (.var 0) .nil))) (.or_ (.not_ (.isi (.idx (.var 0) (.cst (.int 0))) .tup)) (.not_ (.isi (.idx (.var 0) (.cst (.int 1))) .tup))))
  (.cons (.ret (.cst (.bl false)))
  .nil)
  .nil)
  (.cons (.ife (.or_ (.cmp .gt (.b1 .len (.idx (.var 0) (.cst (.int 0)))) (.cst (.int 3))) (.or_ (.cmp .gt (.b1 .len (.idx (.var 0) (.cst (.int 1)))) (.glb "MOST_STEPS")) (.not_ (.b1 .all_ (.lc [("service", 4)] (.name 4) .one (.cons (.idx (.var 0) (.cst (.int 0))) .nil) .no (.call "is_service" (.cons (.var 4) .nil)))))))
  (.cons (.ret (.cst (.bl false)))
  .nil)
  .nil)
  (.cons (.asg (.t (.name 1)) (.lc [("name", 2), ("files", 3)] (.tup (.cons (.name 2) (.cons (.name 3) .nil))) .one (.cons (.idx (.var 0) (.cst (.int 0))) .nil) .no (.var 2)))
  (.cons (.ife (.or_ (.cmp .ne (.b1 .len (.sset (.var 1))) (.b1 .len (.var 1))) (.not_ (.b1 .all_ (.lc [("step", 5)] (.name 5) .one (.cons (.idx (.var 0) (.cst (.int 1))) .nil) .no (.call "is_step" (.cons (.var 5) (.cons (.var 1) .nil)))))))
  (.cons (.ret (.cst (.bl false)))
  .nil)
  .nil)
  (.cons (.ret (.and_ (.call "keeps_order" (.cons (.idx (.var 0) (.cst (.int 1))) .nil)) (.and_ (.cmp .le (.b1 .len (.call "files_in" (.cons (.var 0) .nil))) (.glb "MOST_FILES")) (.cmp .le (.b1 .len (.call "texts_in" (.cons (.var 0) .nil))) (.glb "MOST_FILES")))))
  .nil)))))
def fd_is_playbook : Fd := ⟨1, 6, b_is_playbook⟩
def nm_is_playbook : List PySem.Str := ["value", "names", "name", "files", "service", "step"]
def b_need_playbook : Ss :=
  (.cons (.ife (.not_ (.call "is_playbook" (.cons (.var 0) .nil)))
  (.cons (.raise_ "InvalidPlaybook")
  .nil)
  .nil)
  .nil)
def fd_need_playbook : Fd := ⟨1, 1, b_need_playbook⟩
def nm_need_playbook : List PySem.Str := ["value"]
def b_fits_state : Ss :=
  (.cons (.ife (.or_ (.not_ (.call "is_pair" (.cons (.var 1) .nil))) (.or_ (.not_ (.call "is_machine" (.cons (.idx (.var 1) (.cst (.int 0))) .nil))) (.not_ (.isi (.idx (.var 1) (.cst (.int 1))) .tup))))
  (.cons (.ret (.cst (.bl false)))
  .nil)
  .nil)
  (.cons (.ife (.or_ (.cmp .ne (.b1 .len (.idx (.var 1) (.cst (.int 1)))) (.b1 .len (.idx (.var 0) (.cst (.int 0))))) (.not_ (.b1 .all_ (.lc [("part", 2)] (.name 2) .one (.cons (.idx (.var 1) (.cst (.int 1))) .nil) .no (.call "is_machine" (.cons (.var 2) .nil))))))
  (.cons (.ret (.cst (.bl false)))
  .nil)
  .nil)
  (.cons (.ret (.b1 .all_ (.lc2 [("part", 2), ("name", 5), ("files", 6), ("file", 3), ("text", 4)] [3, 4] (.tup (.cons (.tup (.cons (.name 5) (.cons (.name 6) .nil))) (.cons (.name 2) .nil))) .zip (.cons (.idx (.var 0) (.cst (.int 0))) (.cons (.idx (.var 1) (.cst (.int 1))) .nil)) (.tup (.cons (.name 3) (.cons (.name 4) .nil))) (.var 2) (.cmp .isin (.var 3) (.var 6)))))
  .nil)))
def fd_fits_state : Fd := ⟨2, 7, b_fits_state⟩
def nm_fits_state : List PySem.Str := ["playbook", "value", "part", "file", "text", "name", "files"]
def b_is_state : Ss :=
  (.cons (.expr (.call "need_playbook" (.cons (.var 0) .nil)))
  (.cons (.ret (.call "fits_state" (.cons (.var 0) (.cons (.var 1) .nil))))
  .nil))
def fd_is_state : Fd := ⟨2, 2, b_is_state⟩
def nm_is_state : List PySem.Str := ["playbook", "value"]
def b__law_source : Ss :=
  (.cons (.asg (.t (.name 2)) (.cst (.int 0)))
  (.cons (.ife (.cmp .lt (.var 1) (.b1 .len (.var 0)))
  (.cons (.asg (.t (.name 2)) (.b1 .abs_ (.b1 .int_ (.idx (.var 0) (.var 1)))))
  .nil)
  .nil)
  (.cons (.ife (.cmp .lt (.var 2) (.bin .pow (.cst (.int 10)) (.cst (.int 18))))
  (.cons (.ret (.mlst (.cons (.cst (.int 0)) (.cons (.bin .add (.cst (.int 1)) (.bin .mod (.b1 .int_ (.bin .add (.bin .mul (.var 2) (.cst (.int 7919))) (.bin .mul (.cst (.int 104729)) (.var 1)))) (.cst (.int 2147483646)))) .nil))))
  .nil)
  .nil)
  (.cons (.ret (.mlst (.cons (.var 2) (.cons (.bin .add (.cst (.int 1)) (.bin .mod (.b1 .int_ (.bin .add (.var 2) (.var 1))) (.cst (.int 2147483646)))) .nil))))
  .nil))))
def fd__law_source : Fd := ⟨2, 3, b__law_source⟩
def nm__law_source : List PySem.Str := ["script", "k", "cell"]
def b__law_draw : Ss :=
  (.cons (.ife (.cmp .gt (.idx (.var 0) (.cst (.int 0))) (.cst (.int 0)))
  (.cons (.asg (.t (.name 2)) (.bin .mod (.b1 .int_ (.idx (.var 0) (.cst (.int 0)))) (.var 1)))
  (.cons (.asg (.sub (.var 0) (.cst (.int 0))) (.bin .fdiv (.idx (.var 0) (.cst (.int 0))) (.var 1)))
  (.cons (.ret (.var 2))
  .nil)))
  .nil)
  (.cons (.asg (.sub (.var 0) (.cst (.int 1))) (.bin .mod (.b1 .int_ (.bin .mul (.idx (.var 0) (.cst (.int 1))) (.cst (.int 48271)))) (.cst (.int 2147483647))))
  (.cons (.ret (.bin .mod (.b1 .int_ (.bin .fdiv (.bin .mod (.b1 .int_ (.bin .mul (.idx (.var 0) (.cst (.int 1))) (.idx (.var 0) (.cst (.int 1))))) (.cst (.int 2147483629))) (.cst (.int 64)))) (.var 1)))
  .nil)))
def fd__law_draw : Fd := ⟨2, 3, b__law_draw⟩
def nm__law_draw : List PySem.Str := ["source", "many", "found"]
def b__law_of : Ss :=
  (.cons (.ret (.idx (.var 1) (.call "_law_draw" (.cons (.var 0) (.cons (.b1 .len (.var 1)) .nil)))))
  .nil)
def fd__law_of : Fd := ⟨2, 2, b__law_of⟩
def nm__law_of : List PySem.Str := ["source", "items"]
def b__law_names_0 : Ss :=
  (.cons (.asg (.t (.name 7)) (.idx (.var 3) (.bin .mod (.bin .add (.var 5) (.bin .mul (.var 6) (.var 2))) (.cst (.int 20)))))
  (.cons (.expr (.bm .append (.var 4) (.cons (.bin .add (.bin .add (.var 7) (.bin .mul (.var 7) (.call "_law_draw" (.cons (.var 0) (.cons (.cst (.int 2)) .nil))))) (.slc (.cst (.str "uvwxy")) .no (.yes (.call "_law_draw" (.cons (.var 0) (.cons (.cst (.int 3)) .nil)))))) .nil)))
  .nil))
def b__law_names : Ss :=
  (.cons (.asg (.t (.tup (.cons (.name 3) (.cons (.name 4) .nil)))) (.tup (.cons (.cst (.str "abcdefghijklmnopqrst")) (.cons (.mlst .nil) .nil))))
  (.cons (.asg (.t (.tup (.cons (.name 5) (.cons (.name 6) .nil)))) (.tup (.cons (.call "_law_draw" (.cons (.var 0) (.cons (.cst (.int 20)) .nil))) (.cons (.call "_law_of" (.cons (.var 0) (.cons (.lst (.cons (.cst (.int 1)) (.cons (.cst (.int 3)) (.cons (.cst (.int 7)) (.cons (.cst (.int 9)) (.cons (.cst (.int 11)) (.cons (.cst (.int 13)) (.cons (.cst (.int 17)) (.cons (.cst (.int 19)) .nil))))))))) .nil))) .nil))))
  (.cons (.forS (.name 2) .range (.cons (.var 1) .nil) b__law_names_0)
  (.cons (.ret (.frz (.var 4)))
  .nil))))
def fd__law_names : Fd := ⟨2, 8, b__law_names⟩
def nm__law_names : List PySem.Str := ["source", "many", "turn", "signs", "found", "first", "step", "sign"]
def b__law_texts : Ss :=
  (.cons (.asg (.t (.name 2)) (.lst (.cons (.cst (.str "")) (.cons (.cst (.str "a")) (.cons (.cst (.str "b")) (.cons (.cst (.str "c")) (.cons (.cst (.str "on")) (.cons (.cst (.str "off")) (.cons (.cst (.str "zzzzzzzzzzzz")) (.cons (.cst (.str "d")) (.cons (.cst (.str "yes")) .nil)))))))))))
  (.cons (.asg (.t (.tup (.cons (.name 3) (.cons (.name 4) .nil)))) (.tup (.cons (.call "_law_draw" (.cons (.var 0) (.cons (.cst (.int 9)) .nil))) (.cons (.call "_law_of" (.cons (.var 0) (.cons (.lst (.cons (.cst (.int 1)) (.cons (.cst (.int 2)) (.cons (.cst (.int 4)) (.cons (.cst (.int 5)) (.cons (.cst (.int 7)) (.cons (.cst (.int 8)) .nil))))))) .nil))) .nil))))
  (.cons (.ret (.lc [("turn", 5)] (.name 5) .range (.cons (.var 1) .nil) .no (.idx (.var 2) (.bin .mod (.bin .add (.var 3) (.bin .mul (.var 4) (.var 5))) (.cst (.int 9))))))
  .nil)))
def fd__law_texts : Fd := ⟨2, 6, b__law_texts⟩
def nm__law_texts : List PySem.Str := ["source", "many", "rows", "first", "step", "turn"]
def b__law_world_0 : Ss :=
  (.cons (.asg (.t (.name 7)) (.lc [("file", 8)] (.name 8) .one (.cons (.srt false (.slc (.var 4) .no (.yes (.var 1)))) .nil) (.yes (.cmp .gt (.call "_law_draw" (.cons (.var 0) (.cons (.cst (.int 3)) .nil))) (.cst (.int 0)))) (.var 8)))
  (.cons (.expr (.bm .append (.var 5) (.cons (.tup (.cons (.var 6) (.cons (.b1 .tuple_ (.var 7)) .nil))) .nil)))
  .nil))
def b__law_world : Ss :=
  (.cons (.asg (.t (.name 4)) (.call "_law_names" (.cons (.var 0) (.cons (.bin .add (.var 1) (.var 3)) .nil))))
  (.cons (.asg (.t (.name 5)) (.mlst .nil))
  (.cons (.forS (.name 6) .one (.cons (.slc (.var 4) (.yes (.var 1)) .no) .nil) b__law_world_0)
  (.cons (.ret (.dsp ["files", "texts", "services"] (.cons (.srt false (.slc (.var 4) .no (.yes (.var 1)))) (.cons (.call "_law_texts" (.cons (.var 0) (.cons (.var 2) .nil))) (.cons (.b1 .tuple_ (.var 5)) .nil)))))
  .nil))))
def fd__law_world : Fd := ⟨4, 9, b__law_world⟩
def nm__law_world : List PySem.Str := ["source", "files", "texts", "services", "names", "found", "name", "reads", "file"]
def b__law_deed : Ss :=
  (.cons (.asg (.t (.name 2)) (.lc [("name", 5), ("reads", 6)] (.tup (.cons (.name 5) (.cons (.name 6) .nil))) .one (.cons (.idx (.var 1) (.cst (.str "services"))) .nil) .no (.var 5)))
  (.cons (.asg (.t (.tup (.cons (.name 3) (.cons (.name 4) .nil)))) (.tup (.cons (.call "_law_draw" (.cons (.var 0) (.cons (.cst (.int 8)) .nil))) (.cons (.call "_law_of" (.cons (.var 0) (.cons (.idx (.var 1) (.cst (.str "files"))) .nil))) .nil))))
  (.cons (.ife (.and_ (.cmp .eq (.var 3) (.cst (.int 0))) (.cmp .ne (.var 2) (.lst .nil)))
  (.cons (.ret (.tup (.cons (.cst (.str "restart")) (.cons (.call "_law_of" (.cons (.var 0) (.cons (.var 2) .nil))) .nil))))
  .nil)
  .nil)
  (.cons (.ife (.cmp .eq (.var 3) (.cst (.int 1)))
  (.cons (.ret (.tup (.cons (.cst (.str "flush")) .nil)))
  .nil)
  .nil)
  (.cons (.ife (.cmp .eq (.var 3) (.cst (.int 2)))
  (.cons (.ret (.tup (.cons (.cst (.str "drop")) (.cons (.var 4) .nil))))
  .nil)
  .nil)
  (.cons (.ife (.cmp .lt (.var 3) (.cst (.int 5)))
  (.cons (.ret (.tup (.cons (.cst (.str "copy")) (.cons (.var 4) (.cons (.call "_law_of" (.cons (.var 0) (.cons (.idx (.var 1) (.cst (.str "files"))) .nil))) .nil)))))
  .nil)
  .nil)
  (.cons (.ret (.tup (.cons (.cst (.str "put")) (.cons (.var 4) (.cons (.call "_law_of" (.cons (.var 0) (.cons (.idx (.var 1) (.cst (.str "texts"))) .nil))) .nil)))))
  .nil)))))))
def fd__law_deed : Fd := ⟨2, 7, b__law_deed⟩
def nm__law_deed : List PySem.Str := ["source", "world", "names", "way", "file", "name", "reads"]
def b__law_fact : Ss :=
  (.cons (.asg (.t (.name 3)) (.lc [("at", 6), ("step", 7)] (.tup (.cons (.name 6) (.cons (.name 7) .nil))) .enum (.cons (.var 2) .nil) (.yes (.cmp .ne (.idx (.var 7) (.cst (.int 0))) (.tup (.cons (.cst (.str "flush")) .nil)))) (.var 6)))
  (.cons (.asg (.t (.tup (.cons (.name 4) (.cons (.name 5) .nil)))) (.tup (.cons (.call "_law_draw" (.cons (.var 0) (.cons (.cst (.int 5)) .nil))) (.cons (.call "_law_of" (.cons (.var 0) (.cons (.idx (.var 1) (.cst (.str "files"))) .nil))) .nil))))
  (.cons (.ife (.and_ (.cmp .lt (.var 4) (.cst (.int 2))) (.cmp .ne (.var 3) (.lst .nil)))
  (.cons (.ret (.tup (.cons (.cst (.str "changed")) (.cons (.call "_law_of" (.cons (.var 0) (.cons (.var 3) .nil))) .nil))))
  .nil)
  .nil)
  (.cons (.ife (.cmp .eq (.var 4) (.cst (.int 2)))
  (.cons (.ret (.tup (.cons (.cst (.str "there")) (.cons (.var 5) .nil))))
  .nil)
  .nil)
  (.cons (.ife (.cmp .eq (.var 4) (.cst (.int 3)))
  (.cons (.ret (.tup (.cons (.cst (.str "as")) (.cons (.var 5) (.cons (.call "_law_of" (.cons (.var 0) (.cons (.idx (.var 1) (.cst (.str "files"))) .nil))) .nil)))))
  .nil)
  .nil)
  (.cons (.ret (.tup (.cons (.cst (.str "is")) (.cons (.var 5) (.cons (.call "_law_of" (.cons (.var 0) (.cons (.idx (.var 1) (.cst (.str "texts"))) .nil))) .nil)))))
  .nil))))))
def fd__law_fact : Fd := ⟨3, 8, b__law_fact⟩
def nm__law_fact : List PySem.Str := ["source", "world", "steps", "rows", "way", "file", "at", "step"]
def b__law_step_0 : Ss :=
  (.cons (.asg (.t (.name 10)) (.and_ (.cmp .isin (.idx (.var 5) (.cst (.int 0))) (.tup (.cons (.cst (.str "put")) (.cons (.cst (.str "drop")) (.cons (.cst (.str "copy")) .nil))))) (.cmp .isin (.idx (.var 5) (.cst (.int 1))) (.var 9))))
  (.cons (.asg (.t (.name 11)) (.and_ (.var 10) (.or_ (.var 3) (.cmp .gt (.call "_law_draw" (.cons (.var 0) (.cons (.cst (.int 4)) .nil))) (.cst (.int 0))))))
  (.cons (.ife (.and_ (.cmp .ne (.var 5) (.tup (.cons (.cst (.str "flush")) .nil))) (.or_ (.var 11) (.cmp .eq (.call "_law_draw" (.cons (.var 0) (.cons (.cst (.int 6)) .nil))) (.cst (.int 0)))))
  (.cons (.expr (.bm .append (.var 7) (.cons (.var 8) .nil)))
  .nil)
  .nil)
  .nil)))
def b__law_step_1 : Ss :=
  (.cons (.asg (.t (.name 6)) (.bin .add (.var 6) (.tup (.cons (.tup (.cons (.cmp .gt (.call "_law_draw" (.cons (.var 0) (.cons (.cst (.int 3)) .nil))) (.cst (.int 0))) (.cons (.call "_law_fact" (.cons (.var 0) (.cons (.var 1) (.cons (.var 2) .nil)))) .nil))) .nil))))
  .nil)
def b__law_step : Ss :=
  (.cons (.asg (.t (.tup (.cons (.name 5) (.cons (.name 6) (.cons (.name 7) .nil))))) (.tup (.cons (.call "_law_deed" (.cons (.var 0) (.cons (.var 1) .nil))) (.cons (.tup .nil) (.cons (.mlst .nil) .nil)))))
  (.cons (.forS (.name 4) .range (.cons (.idx (.lst (.cons (.cst (.int 0)) (.cons (.cst (.int 0)) (.cons (.cst (.int 1)) (.cons (.cst (.int 1)) (.cons (.cst (.int 2)) .nil)))))) (.call "_law_draw" (.cons (.var 0) (.cons (.cst (.int 5)) .nil)))) .nil) b__law_step_1)
  (.cons (.forS (.tup (.cons (.name 8) (.cons (.name 9) .nil))) .one (.cons (.idx (.var 1) (.cst (.str "services"))) .nil) b__law_step_0)
  (.cons (.ret (.tup (.cons (.var 5) (.cons (.var 6) (.cons (.b1 .tuple_ (.srt false (.var 7))) .nil)))))
  .nil))))
def fd__law_step : Fd := ⟨4, 12, b__law_step⟩
def nm__law_step : List PySem.Str := ["source", "world", "steps", "full", "turn", "deed", "when", "names", "name", "reads", "must", "wish"]
def b__law_playbook_0 : Ss :=
  (.cons (.asg (.t (.name 4)) (.bin .add (.var 4) (.tup (.cons (.call "_law_step" (.cons (.var 0) (.cons (.var 1) (.cons (.var 4) (.cons (.var 3) .nil))))) .nil))))
  .nil)
def b__law_playbook : Ss :=
  (.cons (.asg (.t (.name 4)) (.tup .nil))
  (.cons (.forS (.name 5) .range (.cons (.call "_law_draw" (.cons (.var 0) (.cons (.bin .add (.var 2) (.cst (.int 1))) .nil))) .nil) b__law_playbook_0)
  (.cons (.ret (.tup (.cons (.idx (.var 1) (.cst (.str "services"))) (.cons (.var 4) .nil))))
  .nil)))
def fd__law_playbook : Fd := ⟨4, 6, b__law_playbook⟩
def nm__law_playbook : List PySem.Str := ["source", "world", "most", "full", "steps", "turn"]
def b__law_machine_0 : Ss :=
  (.cons (.asg (.t (.name 4)) (.call "_law_draw" (.cons (.var 0) (.cons (.cst (.int 4)) .nil))))
  (.cons (.ife (.cmp .gt (.var 4) (.cst (.int 0)))
  (.cons (.asg (.t (.name 5)) (.ite (.cmp .gt (.var 4) (.cst (.int 1))) (.call "_law_of" (.cons (.var 0) (.cons (.bin .add (.idx (.var 1) (.cst (.str "texts"))) (.lst (.cons (.cst (.str "p")) (.cons (.cst (.str "q")) .nil)))) .nil))) (.call "_law_of" (.cons (.var 0) (.cons (.lst (.cons (.cst (.str "")) (.cons (.cst (.str "a")) (.cons (.cst (.str "r")) .nil)))) .nil)))))
  (.cons (.expr (.bm .append (.var 2) (.cons (.tup (.cons (.var 3) (.cons (.var 5) .nil))) .nil)))
  .nil))
  .nil)
  .nil))
def b__law_machine : Ss :=
  (.cons (.asg (.t (.name 2)) (.mlst .nil))
  (.cons (.forS (.name 3) .one (.cons (.idx (.var 1) (.cst (.str "files"))) .nil) b__law_machine_0)
  (.cons (.ife (.cmp .eq (.call "_law_draw" (.cons (.var 0) (.cons (.cst (.int 4)) .nil))) (.cst (.int 0)))
  (.cons (.expr (.bm .append (.var 2) (.cons (.tup (.cons (.cst (.str "zebra")) (.cons (.call "_law_of" (.cons (.var 0) (.cons (.lst (.cons (.cst (.str "")) (.cons (.cst (.str "x")) .nil))) .nil))) .nil))) .nil)))
  .nil)
  .nil)
  (.cons (.ret (.b1 .tuple_ (.var 2)))
  .nil))))
def fd__law_machine : Fd := ⟨2, 6, b__law_machine⟩
def nm__law_machine : List PySem.Str := ["source", "world", "found", "file", "way", "text"]
def b__law_part : Ss :=
  (.cons (.ret (.b1 .tuple_ (.lc [("file", 2)] (.name 2) .one (.cons (.var 1) .nil) (.yes (.cmp .isin (.var 2) (.var 0))) (.tup (.cons (.var 2) (.cons (.idx (.var 0) (.var 2)) .nil))))))
  .nil)
def fd__law_part : Fd := ⟨2, 3, b__law_part⟩
def nm__law_part : List PySem.Str := ["files", "reads", "file"]
def b__law_files_0 : Ss :=
  (.cons (.ife (.cmp .notin (.idx (.var 9) (.cst (.int 0))) (.tup (.cons (.cst (.str "changed")) (.cons (.cst (.str "restart")) (.cons (.cst (.str "flush")) .nil)))))
  (.cons (.expr (.bm .append (.var 1) (.cons (.idx (.var 9) (.cst (.int 1))) .nil)))
  .nil)
  .nil)
  (.cons (.ife (.cmp .isin (.idx (.var 9) (.cst (.int 0))) (.tup (.cons (.cst (.str "copy")) (.cons (.cst (.str "as")) .nil))))
  (.cons (.expr (.bm .append (.var 1) (.cons (.idx (.var 9) (.cst (.int 2))) .nil)))
  .nil)
  .nil)
  .nil))
def b__law_files_1 : Ss :=
  (.cons (.forS (.name 9) .one (.cons (.bin .add (.lst (.cons (.var 6) .nil)) (.lc [("wanted", 10), ("fact", 11)] (.tup (.cons (.name 10) (.cons (.name 11) .nil))) .one (.cons (.var 7) .nil) .no (.var 11))) .nil) b__law_files_0)
  .nil)
def b__law_files_2 : Ss :=
  (.cons (.asg (.t (.name 1)) (.addm (.var 1) (.b1 .list_ (.var 5))))
  .nil)
def b__law_files_3 : Ss :=
  (.cons (.forS (.tup (.cons (.name 4) (.cons (.name 5) .nil))) .one (.cons (.var 2) .nil) b__law_files_2)
  (.cons (.forS (.tup (.cons (.name 6) (.cons (.name 7) (.cons (.name 8) .nil)))) .one (.cons (.var 3) .nil) b__law_files_1)
  .nil))
def b__law_files : Ss :=
  (.cons (.asg (.t (.name 1)) (.mlst .nil))
  (.cons (.forS (.tup (.cons (.name 2) (.cons (.name 3) .nil))) .one (.cons (.var 0) .nil) b__law_files_3)
  (.cons (.ret (.sset (.var 1)))
  .nil)))
def fd__law_files : Fd := ⟨1, 12, b__law_files⟩
def nm__law_files : List PySem.Str := ["playbooks", "found", "services", "steps", "name", "reads", "deed", "when", "notify", "row", "wanted", "fact"]
def b__law_known_0 : Ss :=
  (.cons (.ife (.cmp .isin (.idx (.var 7) (.cst (.int 0))) (.tup (.cons (.cst (.str "put")) (.cons (.cst (.str "is")) .nil))))
  (.cons (.expr (.bm .append (.var 1) (.cons (.idx (.var 7) (.cst (.int 2))) .nil)))
  .nil)
  .nil)
  .nil)
def b__law_known_1 : Ss :=
  (.cons (.forS (.name 7) .one (.cons (.bin .add (.lst (.cons (.var 4) .nil)) (.lc [("wanted", 8), ("fact", 9)] (.tup (.cons (.name 8) (.cons (.name 9) .nil))) .one (.cons (.var 5) .nil) .no (.var 9))) .nil) b__law_known_0)
  .nil)
def b__law_known_2 : Ss :=
  (.cons (.forS (.tup (.cons (.name 4) (.cons (.name 5) (.cons (.name 6) .nil)))) .one (.cons (.var 3) .nil) b__law_known_1)
  .nil)
def b__law_known : Ss :=
  (.cons (.asg (.t (.name 1)) (.mlst .nil))
  (.cons (.forS (.tup (.cons (.name 2) (.cons (.name 3) .nil))) .one (.cons (.var 0) .nil) b__law_known_2)
  (.cons (.ret (.sset (.var 1)))
  .nil)))
def fd__law_known : Fd := ⟨1, 10, b__law_known⟩
def nm__law_known : List PySem.Str := ["playbooks", "found", "services", "steps", "deed", "when", "notify", "row", "wanted", "fact"]
def b_files_of : Ss :=
  (.cons (.expr (.call "need_playbook" (.cons (.var 0) .nil)))
  (.cons (.ret (.call "files_in" (.cons (.var 0) .nil)))
  .nil))
def fd_files_of : Fd := ⟨1, 1, b_files_of⟩
def nm_files_of : List PySem.Str := ["playbook"]
def b_texts_of : Ss :=
  (.cons (.expr (.call "need_playbook" (.cons (.var 0) .nil)))
  (.cons (.ret (.call "texts_in" (.cons (.var 0) .nil)))
  .nil))
def fd_texts_of : Fd := ⟨1, 1, b_texts_of⟩
def nm_texts_of : List PySem.Str := ["playbook"]
def b_unnotified_0 : Ss :=
  (.cons (.ife (.and_ (.cmp .isin (.idx (.var 3) (.cst (.int 0))) (.tup (.cons (.cst (.str "put")) (.cons (.cst (.str "drop")) (.cons (.cst (.str "copy")) .nil))))) (.and_ (.cmp .isin (.idx (.var 3) (.cst (.int 1))) (.var 7)) (.cmp .notin (.var 6) (.var 5))))
  (.cons (.expr (.bm .append (.var 1) (.cons (.tup (.cons (.var 2) (.cons (.var 6) .nil))) .nil)))
  .nil)
  .nil)
  .nil)
def b_unnotified_1 : Ss :=
  (.cons (.forS (.tup (.cons (.name 6) (.cons (.name 7) .nil))) .one (.cons (.idx (.var 0) (.cst (.int 0))) .nil) b_unnotified_0)
  .nil)
def b_unnotified : Ss :=
  (.cons (.expr (.call "need_playbook" (.cons (.var 0) .nil)))
  (.cons (.asg (.t (.name 1)) (.mlst .nil))
  (.cons (.forS (.tup (.cons (.name 2) (.cons (.tup (.cons (.name 3) (.cons (.name 4) (.cons (.name 5) .nil)))) .nil))) .enum (.cons (.idx (.var 0) (.cst (.int 1))) .nil) b_unnotified_1)
  (.cons (.ret (.srt true (.var 1)))
  .nil))))
def fd_unnotified : Fd := ⟨1, 8, b_unnotified⟩
def nm_unnotified : List PySem.Str := ["playbook", "found", "at", "deed", "when", "notify", "name", "files"]
def b__wall_0 : Ss :=
  (.cons .pass_
  .nil)
def b__wall : Ss :=
  (.cons (.whileS (.cst (.bl true)) b__wall_0)
  .nil)
def fd__wall : Fd := ⟨1, 1, b__wall⟩
def nm__wall : List PySem.Str := ["k"]
def b_need_machine : Ss :=
  (.cons (.ife (.not_ (.call "is_machine" (.cons (.var 0) .nil)))
  (.cons (.raise_ "InvalidMachine")
  .nil)
  .nil)
  .nil)
def fd_need_machine : Fd := ⟨1, 1, b_need_machine⟩
def nm_need_machine : List PySem.Str := ["value"]
def b_need_state : Ss :=
  (.cons (.ife (.not_ (.call "fits_state" (.cons (.var 0) (.cons (.var 1) .nil))))
  (.cons (.raise_ "InvalidState")
  .nil)
  .nil)
  .nil)
def fd_need_state : Fd := ⟨2, 2, b_need_state⟩
def nm_need_state : List PySem.Str := ["playbook", "value"]
def b_fresh : Ss :=
  (.cons (.expr (.call "need_playbook" (.cons (.var 0) .nil)))
  (.cons (.expr (.call "need_machine" (.cons (.var 1) .nil)))
  (.cons (.ret (.call "fresh_state" (.cons (.var 0) (.cons (.var 1) .nil))))
  .nil)))
def fd_fresh : Fd := ⟨2, 2, b_fresh⟩
def nm_fresh : List PySem.Str := ["playbook", "machine"]
def b_need_break : Ss :=
  (.cons (.ife (.and_ (.cmp .notn (.var 0) (.cst .non)) (.not_ (.call "is_number" (.cons (.var 0) (.cons (.cst (.int 0)) (.cons (.glb "MOST_BREAK") .nil))))))
  (.cons (.raise_ "InvalidBreak")
  .nil)
  .nil)
  .nil)
def fd_need_break : Fd := ⟨1, 1, b_need_break⟩
def nm_need_break : List PySem.Str := ["value"]
def b__law_holds_0 : Ss :=
  (.cons (.asg (.t (.name 4)) (.idx (.var 0) (.cst (.str "files"))))
  (.cons (.ife (.cmp .eq (.idx (.var 3) (.cst (.int 0))) (.cst (.str "changed")))
  (.cons (.asg (.t (.name 5)) (.cmp .isin (.idx (.var 3) (.cst (.int 1))) (.idx (.var 0) (.cst (.str "changed")))))
  .nil)
  (.cons (.ife (.cmp .eq (.idx (.var 3) (.cst (.int 0))) (.cst (.str "there")))
  (.cons (.asg (.t (.name 5)) (.cmp .isin (.idx (.var 3) (.cst (.int 1))) (.var 4)))
  .nil)
  (.cons (.ife (.cmp .eq (.idx (.var 3) (.cst (.int 0))) (.cst (.str "is")))
  (.cons (.asg (.t (.name 5)) (.and_ (.cmp .isin (.idx (.var 3) (.cst (.int 1))) (.var 4)) (.cmp .eq (.idx (.var 4) (.idx (.var 3) (.cst (.int 1)))) (.idx (.var 3) (.cst (.int 2))))))
  .nil)
  (.cons (.asg (.t (.name 5)) (.cmp .eq (.bm .dget (.var 4) (.cons (.idx (.var 3) (.cst (.int 1))) (.cons (.cst .non) .nil))) (.bm .dget (.var 4) (.cons (.idx (.var 3) (.cst (.int 2))) (.cons (.cst .non) .nil)))))
  .nil))
  .nil))
  .nil))
  (.cons (.ife (.cmp .ne (.var 5) (.var 2))
  (.cons (.ret (.cst (.bl false)))
  .nil)
  .nil)
  .nil)))
def b__law_holds : Ss :=
  (.cons (.forS (.tup (.cons (.name 2) (.cons (.name 3) .nil))) .one (.cons (.var 1) .nil) b__law_holds_0)
  (.cons (.ret (.cst (.bl true)))
  .nil))
def fd__law_holds : Fd := ⟨2, 6, b__law_holds⟩
def nm__law_holds : List PySem.Str := ["work", "when", "wanted", "fact", "files", "truth"]
def b__law_flushes_0 : Ss :=
  (.cons (.ife (.and_ (.cmp .isin (.var 1) (.idx (.var 0) (.cst (.str "notices")))) (.not_ (.call "_law_acts" (.cons (.var 0) (.cons (.tup (.cons (.cst (.str "start")) (.cons (.var 1) .nil))) .nil)))))
  (.cons (.ret (.cst (.bl false)))
  .nil)
  .nil)
  .nil)
def b__law_flushes : Ss :=
  (.cons (.forS (.tup (.cons (.name 1) (.cons (.name 2) .nil))) .one (.cons (.idx (.var 0) (.cst (.str "services"))) .nil) b__law_flushes_0)
  (.cons (.ret (.cst (.bl true)))
  .nil))
def fd__law_flushes : Fd := ⟨1, 3, b__law_flushes⟩
def nm__law_flushes : List PySem.Str := ["work", "name", "reads"]
def b__law_does : Ss :=
  (.cons (.asg (.t (.tup (.cons (.name 3) (.cons (.name 4) (.cons (.name 5) .nil))))) (.var 2))
  (.cons (.ife (.cmp .eq (.idx (.var 3) (.cst (.int 0))) (.cst (.str "flush")))
  (.cons (.asg (.sub (.var 0) (.cst (.str "flushed"))) (.bin .add (.idx (.var 0) (.cst (.str "flushed"))) (.bin .mul (.lst (.cons (.var 1) .nil)) (.b1 .int_ (.cmp .ne (.idx (.var 0) (.cst (.str "notices"))) (.lst .nil))))))
  (.cons (.ret (.call "_law_flushes" (.cons (.var 0) .nil)))
  .nil))
  .nil)
  (.cons (.ife (.cmp .eq (.idx (.var 3) (.cst (.int 0))) (.cst (.str "restart")))
  (.cons (.asg (.t (.name 6)) (.call "_law_acts" (.cons (.var 0) (.cons (.tup (.cons (.cst (.str "start")) (.cons (.idx (.var 3) (.cst (.int 1))) .nil))) .nil))))
  .nil)
  (.cons (.asg (.t (.name 7)) (.idx (.var 0) (.cst (.str "files"))))
  (.cons (.asg (.t (.name 8)) (.ite (.cmp .eq (.idx (.var 3) (.cst (.int 0))) (.cst (.str "put"))) (.idx (.var 3) (.cst (.int 2))) (.ite (.cmp .eq (.idx (.var 3) (.cst (.int 0))) (.cst (.str "drop"))) (.cst .non) (.bm .dget (.var 7) (.cons (.idx (.var 3) (.cst (.int 2))) (.cons (.cst .non) .nil))))))
  (.cons (.ife (.cmp .eq (.bm .dget (.var 7) (.cons (.idx (.var 3) (.cst (.int 1))) (.cons (.cst .non) .nil))) (.var 8))
  (.cons (.ret (.cst (.bl true)))
  .nil)
  .nil)
  (.cons (.asg (.t (.name 6)) (.call "_law_acts" (.cons (.var 0) (.cons (.tup (.cons (.cst (.str "file")) (.cons (.idx (.var 3) (.cst (.int 1))) (.cons (.var 8) .nil)))) .nil))))
  .nil)))))
  (.cons (.ife (.var 6)
  (.cons (.expr (.bm .append (.idx (.var 0) (.cst (.str "changed"))) (.cons (.var 1) .nil)))
  (.cons (.asg (.sub (.var 0) (.cst (.str "notices"))) (.bin .add (.idx (.var 0) (.cst (.str "notices"))) (.lc [("name", 9)] (.name 9) .one (.cons (.var 5) .nil) (.yes (.cmp .notin (.var 9) (.idx (.var 0) (.cst (.str "notices"))))) (.var 9))))
  .nil))
  .nil)
  (.cons (.ret (.var 6))
  .nil)))))
def fd__law_does : Fd := ⟨3, 10, b__law_does⟩
def nm__law_does : List PySem.Str := ["work", "at", "step", "deed", "when", "notify", "going", "files", "text", "name"]
def b__law_told : Ss :=
  (.cons (.ret (.tup (.cons (.b1 .tuple_ (.idx (.var 0) (.cst (.str "changed")))) (.cons (.b1 .tuple_ (.idx (.var 0) (.cst (.str "started")))) .nil))))
  .nil)
def fd__law_told : Fd := ⟨1, 1, b__law_told⟩
def nm__law_told : List PySem.Str := ["work"]
def b_need_history : Ss :=
  (.cons (.ife (.or_ (.not_ (.isi (.var 0) .tup)) (.or_ (.cmp .gt (.b1 .len (.var 0)) (.cst (.int 6))) (.not_ (.b1 .all_ (.lc [("item", 1)] (.name 1) .one (.cons (.var 0) .nil) .no (.call "is_number" (.cons (.var 1) (.cons (.cst (.int 0)) (.cons (.glb "MOST_BREAK") .nil)))))))))
  (.cons (.raise_ "InvalidHistory")
  .nil)
  .nil)
  .nil)
def fd_need_history : Fd := ⟨1, 2, b_need_history⟩
def nm_need_history : List PySem.Str := ["value", "item"]
def b_after : Ss :=
  (.cons (.expr (.call "need_playbook" (.cons (.var 0) .nil)))
  (.cons (.expr (.call "need_machine" (.cons (.var 1) .nil)))
  (.cons (.expr (.call "need_history" (.cons (.var 2) .nil)))
  (.cons (.ret (.call "state_behind" (.cons (.var 0) (.cons (.var 1) (.cons (.var 2) .nil)))))
  .nil))))
def fd_after : Fd := ⟨3, 3, b_after⟩
def nm_after : List PySem.Str := ["playbook", "machine", "history"]
def b_strange_texts : Ss :=
  (.cons (.asg (.t (.name 2)) (.bin .add (.lst (.cons (.cst (.str "")) .nil)) (.lc [("letter", 3)] (.name 3) .one (.cons (.glb "LETTERS") .nil) .no (.var 3))))
  (.cons (.ret (.slc (.lc [("text", 4)] (.name 4) .one (.cons (.var 2) .nil) (.yes (.cmp .notin (.var 4) (.var 0))) (.var 4)) .no (.yes (.var 1))))
  .nil))
def fd_strange_texts : Fd := ⟨2, 5, b_strange_texts⟩
def nm_strange_texts : List PySem.Str := ["known", "many", "rows", "letter", "text"]
def b_together : Ss :=
  (.cons (.asg (.t (.name 1)) (.sset (.lc2 [("playbook", 3), ("file", 4)] [4] (.name 3) .one (.cons (.var 0) .nil) (.name 4) (.call "files_in" (.cons (.var 3) .nil)) (.var 4))))
  (.cons (.asg (.t (.name 2)) (.sset (.lc2 [("playbook", 3), ("text", 5)] [5] (.name 3) .one (.cons (.var 0) .nil) (.name 5) (.call "texts_in" (.cons (.var 3) .nil)) (.var 5))))
  (.cons (.ret (.ite (.and_ (.cmp .le (.b1 .len (.var 1)) (.glb "MOST_FILES")) (.cmp .le (.b1 .len (.var 2)) (.glb "MOST_FILES"))) (.tup (.cons (.var 1) (.cons (.var 2) .nil))) (.cst .non)))
  .nil)))
def fd_together : Fd := ⟨1, 6, b_together⟩
def nm_together : List PySem.Str := ["playbooks", "files", "texts", "playbook", "file", "text"]
def b_all_cases_0 : Ss :=
  (.cons (.expr (.bm .append (.var 6) (.cons (.tup (.cons (.bin .add (.var 7) (.tup (.cons (.tup (.cons (.var 3) (.cons (.var 9) .nil))) .nil))) (.cons (.var 8) .nil))) .nil)))
  .nil)
def b_all_cases_1 : Ss :=
  (.cons (.expr (.bm .append (.var 6) (.cons (.tup (.cons (.var 7) (.cons (.var 8) .nil))) .nil)))
  (.cons (.forS (.name 9) .one (.cons (.bin .add (.var 5) (.slc (.var 1) .no (.yes (.var 8)))) .nil) b_all_cases_0)
  (.cons (.expr (.bm .append (.var 6) (.cons (.tup (.cons (.bin .add (.var 7) (.tup (.cons (.tup (.cons (.var 3) (.cons (.idx (.var 1) (.var 8)) .nil))) .nil))) (.cons (.bin .add (.var 8) (.cst (.int 1))) .nil))) .nil)))
  .nil)))
def b_all_cases_2 : Ss :=
  (.cons (.asg (.t (.name 6)) (.mlst .nil))
  (.cons (.forS (.tup (.cons (.name 7) (.cons (.name 8) .nil))) .one (.cons (.var 2) .nil) b_all_cases_1)
  (.cons (.asg (.t (.name 2)) (.var 6))
  .nil)))
def b_all_cases : Ss :=
  (.cons (.asg (.t (.tup (.cons (.name 4) (.cons (.name 5) .nil)))) (.call "together" (.cons (.var 0) .nil)))
  (.cons (.asg (.t (.name 1)) (.call "strange_texts" (.cons (.var 5) (.cons (.b1 .len (.var 4)) .nil))))
  (.cons (.asg (.t (.name 2)) (.lst (.cons (.tup (.cons (.tup .nil) (.cons (.cst (.int 0)) .nil))) .nil)))
  (.cons (.forS (.name 3) .one (.cons (.var 4) .nil) b_all_cases_2)
  (.cons (.ret (.srt false (.lc [("row", 7), ("used", 8)] (.tup (.cons (.name 7) (.cons (.name 8) .nil))) .one (.cons (.var 2) .nil) .no (.var 7))))
  .nil)))))
def fd_all_cases : Fd := ⟨1, 10, b_all_cases⟩
def nm_all_cases : List PySem.Str := ["playbooks", "strange", "rows", "file", "files", "texts", "later", "row", "used", "text"]
def b__law_cases_0 : Ss :=
  (.cons (.ife (.and_ (.cmp .isin (.var 9) (.var 1)) (.cmp .notin (.var 9) (.var 10)))
  (.cons (.expr (.bm .append (.var 10) (.cons (.var 9) .nil)))
  .nil)
  .nil)
  .nil)
def b__law_cases_1 : Ss :=
  (.cons (.asg (.t (.name 10)) (.mlst .nil))
  (.cons (.forS (.tup (.cons (.name 3) (.cons (.name 9) .nil))) .one (.cons (.var 5) .nil) b__law_cases_0)
  (.cons (.ife (.cmp .eq (.var 10) (.slc (.var 1) .no (.yes (.b1 .len (.var 10)))))
  (.cons (.expr (.bm .append (.var 4) (.cons (.var 5) .nil)))
  .nil)
  .nil)
  .nil)))
def b__law_cases_2 : Ss :=
  (.cons (.asg (.t (.name 8)) (.bin .add (.var 8) (.lc [("row", 5)] (.name 5) .one (.cons (.var 2) .nil) .no (.bin .add (.var 5) (.tup (.cons (.tup (.cons (.var 3) (.cons (.var 9) .nil))) .nil))))))
  .nil)
def b__law_cases_3 : Ss :=
  (.cons (.asg (.t (.name 8)) (.b1 .list_ (.var 2)))
  (.cons (.forS (.name 9) .one (.cons (.bin .add (.var 7) (.var 1)) .nil) b__law_cases_2)
  (.cons (.asg (.t (.name 2)) (.var 8))
  .nil)))
def b__law_cases : Ss :=
  (.cons (.asg (.t (.tup (.cons (.name 6) (.cons (.name 7) .nil)))) (.tup (.cons (.call "_law_files" (.cons (.var 0) .nil)) (.cons (.call "_law_known" (.cons (.var 0) .nil)) .nil))))
  (.cons (.asg (.t (.name 1)) (.slc (.lc [("text", 9)] (.name 9) .one (.cons (.bin .add (.lst (.cons (.cst (.str "")) .nil)) (.lc [("sign", 11)] (.name 11) .one (.cons (.cst (.str "abcdefghijklmnopqrst")) .nil) .no (.var 11))) .nil) (.yes (.cmp .notin (.var 9) (.var 7))) (.var 9)) .no (.yes (.b1 .len (.var 6)))))
  (.cons (.asg (.t (.name 2)) (.lst (.cons (.tup .nil) .nil)))
  (.cons (.forS (.name 3) .one (.cons (.var 6) .nil) b__law_cases_3)
  (.cons (.asg (.t (.name 4)) (.mlst .nil))
  (.cons (.forS (.name 5) .one (.cons (.var 2) .nil) b__law_cases_1)
  (.cons (.ret (.srt false (.var 4)))
  .nil)))))))
def fd__law_cases : Fd := ⟨1, 12, b__law_cases⟩
def nm__law_cases : List PySem.Str := ["playbooks", "strange", "rows", "file", "found", "row", "files", "texts", "later", "text", "seen", "sign"]
def b_runs : Ss :=
  (.cons (.ret (.lc [("machine", 1)] (.name 1) .one (.cons (.call "all_cases" (.cons (.lst (.cons (.var 0) .nil)) .nil)) .nil) .no (.tup (.cons (.var 1) (.cons (.call "ran" (.cons (.var 0) (.cons (.call "fresh_state" (.cons (.var 0) (.cons (.var 1) .nil))) .nil))) .nil)))))
  .nil)
def fd_runs : Fd := ⟨1, 2, b_runs⟩
def nm_runs : List PySem.Str := ["playbook", "machine"]
def b_honest : Ss :=
  (.cons (.ret (.cmp .isn (.call "misled" (.cons (.var 0) .nil)) (.cst .non)))
  .nil)
def fd_honest : Fd := ⟨1, 1, b_honest⟩
def nm_honest : List PySem.Str := ["playbook"]
def b_lean : Ss :=
  (.cons (.ret (.cmp .isn (.call "wasteful" (.cons (.var 0) .nil)) (.cst .non)))
  .nil)
def fd_lean : Fd := ⟨1, 1, b_lean⟩
def nm_lean : List PySem.Str := ["playbook"]
def b__law_plain : Ss :=
  (.cons (.ret (.call "_law_run" (.cons (.var 0) (.cons (.call "_law_fresh" (.cons (.var 0) (.cons (.var 1) .nil))) (.cons (.cst .non) (.cons (.cst (.bl false)) .nil))))))
  .nil)
def fd__law_plain : Fd := ⟨2, 2, b__law_plain⟩
def nm__law_plain : List PySem.Str := ["playbook", "machine"]
def b_idle_0 : Ss :=
  (.cons (.ife (.not_ (.b1 .any_ (.lc [("machine", 4), ("runner", 5)] (.tup (.cons (.name 4) (.cons (.name 5) .nil))) .one (.cons (.var 1) .nil) .no (.call "does" (.cons (.var 0) (.cons (.var 3) (.cons (.var 5) .nil)))))))
  (.cons (.expr (.bm .append (.var 2) (.cons (.var 3) .nil)))
  .nil)
  .nil)
  .nil)
def b_idle : Ss :=
  (.cons (.expr (.call "need_playbook" (.cons (.var 0) .nil)))
  (.cons (.asg (.t (.name 1)) (.call "runs" (.cons (.var 0) .nil)))
  (.cons (.asg (.t (.name 2)) (.mlst .nil))
  (.cons (.forS (.name 3) .range (.cons (.b1 .len (.idx (.var 0) (.cst (.int 1)))) .nil) b_idle_0)
  (.cons (.ret (.frz (.var 2)))
  .nil)))))
def fd_idle : Fd := ⟨1, 6, b_idle⟩
def nm_idle : List PySem.Str := ["playbook", "rows", "found", "index", "machine", "runner"]
def b_need_service : Ss :=
  (.cons (.ife (.or_ (.not_ (.isi (.var 1) .str)) (.cmp .notin (.var 1) (.lc [("name", 2), ("files", 3)] (.tup (.cons (.name 2) (.cons (.name 3) .nil))) .one (.cons (.idx (.var 0) (.cst (.int 0))) .nil) .no (.var 2))))
  (.cons (.raise_ "InvalidService")
  .nil)
  .nil)
  .nil)
def fd_need_service : Fd := ⟨2, 4, b_need_service⟩
def nm_need_service : List PySem.Str := ["playbook", "value", "name", "files"]
def b_parting_0 : Ss :=
  (.cons (.ife (.cmp .ne (.call "outcome" (.cons (.var 0) (.cons (.var 2) .nil))) (.call "outcome" (.cons (.var 1) (.cons (.var 2) .nil))))
  (.cons (.ret (.var 2))
  .nil)
  .nil)
  .nil)
def b_parting : Ss :=
  (.cons (.expr (.call "need_playbook" (.cons (.var 0) .nil)))
  (.cons (.expr (.call "need_playbook" (.cons (.var 1) .nil)))
  (.cons (.ife (.cmp .isn (.call "together" (.cons (.lst (.cons (.var 0) (.cons (.var 1) .nil))) .nil)) (.cst .non))
  (.cons (.raise_ "InvalidPlaybook")
  .nil)
  .nil)
  (.cons (.forS (.name 2) .one (.cons (.call "all_cases" (.cons (.lst (.cons (.var 0) (.cons (.var 1) .nil))) .nil)) .nil) b_parting_0)
  (.cons (.ret (.cst .non))
  .nil)))))
def fd_parting : Fd := ⟨2, 3, b_parting⟩
def nm_parting : List PySem.Str := ["one", "other", "machine"]
def b_alike : Ss :=
  (.cons (.ret (.cmp .isn (.call "parting" (.cons (.var 0) (.cons (.var 1) .nil))) (.cst .non)))
  .nil)
def fd_alike : Fd := ⟨2, 2, b_alike⟩
def nm_alike : List PySem.Str := ["one", "other"]
def b_heals : Ss :=
  (.cons (.ret (.cmp .isn (.call "ill" (.cons (.var 0) .nil)) (.cst .non)))
  .nil)
def fd_heals : Fd := ⟨1, 1, b_heals⟩
def nm_heals : List PySem.Str := ["playbook"]
def b_unhealed_0 : Ss :=
  (.cons (.asg (.t (.name 1)) (.bin .add (.var 1) (.lc [("name", 4)] (.name 4) .one (.cons (.call "stale_behind" (.cons (.var 0) (.cons (.var 3) .nil))) .nil) (.yes (.cmp .notin (.var 4) (.var 1))) (.var 4))))
  .nil)
def b_unhealed_1 : Ss :=
  (.cons (.forS (.name 3) .one (.cons (.var 2) .nil) b_unhealed_0)
  .nil)
def b_unhealed : Ss :=
  (.cons (.expr (.call "need_playbook" (.cons (.var 0) .nil)))
  (.cons (.asg (.t (.name 1)) (.lst .nil))
  (.cons (.forS (.name 2) .one (.cons (.call "reached" (.cons (.var 0) (.cons (.call "all_cases" (.cons (.lst (.cons (.var 0) .nil)) .nil)) .nil))) .nil) b_unhealed_1)
  (.cons (.ret (.lc [("name", 4), ("files", 5)] (.tup (.cons (.name 4) (.cons (.name 5) .nil))) .one (.cons (.idx (.var 0) (.cst (.int 0))) .nil) (.yes (.cmp .isin (.var 4) (.var 1))) (.var 4)))
  .nil))))
def fd_unhealed : Fd := ⟨1, 6, b_unhealed⟩
def nm_unhealed : List PySem.Str := ["playbook", "found", "level", "state", "name", "files"]
def b_fewest_breaks : Ss :=
  (.cons (.asg (.t (.name 1)) (.call "ill" (.cons (.var 0) .nil)))
  (.cons (.ret (.ite (.cmp .isn (.var 1) (.cst .non)) (.cst .non) (.b1 .len (.idx (.var 1) (.cst (.int 1))))))
  .nil))
def fd_fewest_breaks : Fd := ⟨1, 2, b_fewest_breaks⟩
def nm_fewest_breaks : List PySem.Str := ["playbook", "found"]
def b__law_levels_0 : Ss :=
  (.cons (.asg (.t (.name 10)) (.call "_law_state" (.cons (.call "_law_run" (.cons (.var 0) (.cons (.var 6) (.cons (.var 9) (.cons (.cst (.bl false)) .nil))))) .nil)))
  (.cons (.ife (.cmp .notin (.var 10) (.var 4))
  (.cons (.asg (.sub (.var 4) (.var 10)) (.cst (.bl true)))
  (.cons (.expr (.bm .append (.var 7) (.cons (.var 10) .nil)))
  .nil))
  .nil)
  .nil))
def b__law_levels_1 : Ss :=
  (.cons (.asg (.t (.name 8)) (.b1 .len (.idx (.call "_law_run" (.cons (.var 0) (.cons (.var 6) (.cons (.cst .non) (.cons (.cst (.bl false)) .nil))))) (.cst (.str "deeds")))))
  (.cons (.forS (.name 9) .range (.cons (.bin .add (.var 8) (.cst (.int 1))) .nil) b__law_levels_0)
  .nil))
def b__law_levels_2 : Ss :=
  (.cons (.expr (.bm .append (.var 5) (.cons (.var 3) .nil)))
  (.cons (.asg (.t (.name 7)) (.mlst .nil))
  (.cons (.forS (.name 6) .one (.cons (.var 3) .nil) b__law_levels_1)
  (.cons (.asg (.t (.name 3)) (.var 7))
  .nil))))
def b__law_levels_3 : Ss :=
  (.cons (.asg (.t (.name 6)) (.call "_law_fresh" (.cons (.var 0) (.cons (.var 2) .nil))))
  (.cons (.ife (.cmp .notin (.var 6) (.var 4))
  (.cons (.asg (.sub (.var 4) (.var 6)) (.cst (.bl true)))
  (.cons (.expr (.bm .append (.var 3) (.cons (.var 6) .nil)))
  .nil))
  .nil)
  .nil))
def b__law_levels : Ss :=
  (.cons (.asg (.t (.tup (.cons (.name 3) (.cons (.name 4) (.cons (.name 5) .nil))))) (.tup (.cons (.mlst .nil) (.cons (.dsp [] .nil) (.cons (.mlst .nil) .nil)))))
  (.cons (.forS (.name 2) .one (.cons (.var 1) .nil) b__law_levels_3)
  (.cons (.whileS (.cmp .ne (.var 3) (.lst .nil)) b__law_levels_2)
  (.cons (.ret (.frz (.var 5)))
  .nil))))
def fd__law_levels : Fd := ⟨2, 11, b__law_levels⟩
def nm__law_levels : List PySem.Str := ["playbook", "machines", "machine", "level", "seen", "found", "state", "later", "many", "cut", "other"]
def b__law_sick : Ss :=
  (.cons (.ret (.call "_law_stale" (.cons (.var 0) (.cons (.call "_law_state" (.cons (.call "_law_run" (.cons (.var 0) (.cons (.var 1) (.cons (.cst .non) (.cons (.cst (.bl false)) .nil))))) .nil)) .nil))))
  .nil)
def fd__law_sick : Fd := ⟨2, 2, b__law_sick⟩
def nm__law_sick : List PySem.Str := ["playbook", "state"]
def b_endings : Ss :=
  (.cons (.expr (.call "need_playbook" (.cons (.var 0) .nil)))
  (.cons (.expr (.call "need_machine" (.cons (.var 1) .nil)))
  (.cons (.ret (.call "ending_machines" (.cons (.var 0) (.cons (.var 1) .nil))))
  .nil)))
def fd_endings : Fd := ⟨2, 2, b_endings⟩
def nm_endings : List PySem.Str := ["playbook", "machine"]
def b_steady : Ss :=
  (.cons (.expr (.call "need_playbook" (.cons (.var 0) .nil)))
  (.cons (.ret (.b1 .all_ (.lc [("machine", 1)] (.name 1) .one (.cons (.call "all_cases" (.cons (.lst (.cons (.var 0) .nil)) .nil)) .nil) .no (.cmp .eq (.b1 .len (.call "ending_machines" (.cons (.var 0) (.cons (.var 1) .nil)))) (.cst (.int 1))))))
  .nil))
def fd_steady : Fd := ⟨1, 2, b_steady⟩
def nm_steady : List PySem.Str := ["playbook", "machine"]
def b_sound : Ss :=
  (.cons (.ife (.not_ (.call "is_playbook" (.cons (.var 0) .nil)))
  (.cons (.raise_ "TooLarge")
  .nil)
  .nil)
  (.cons (.ret (.var 0))
  .nil))
def fd_sound : Fd := ⟨1, 1, b_sound⟩
def nm_sound : List PySem.Str := ["playbook"]
def b_would_change : Ss :=
  (.cons (.ife (.cmp .eq (.idx (.var 0) (.cst (.int 0))) (.cst (.str "restart")))
  (.cons (.ret (.tup .nil))
  .nil)
  .nil)
  (.cons (.ife (.cmp .eq (.idx (.var 0) (.cst (.int 0))) (.cst (.str "put")))
  (.cons (.ret (.tup (.cons (.tup (.cons (.cst (.bl false)) (.cons (.tup (.cons (.cst (.str "is")) (.cons (.idx (.var 0) (.cst (.int 1))) (.cons (.idx (.var 0) (.cst (.int 2))) .nil)))) .nil))) .nil)))
  .nil)
  .nil)
  (.cons (.ret (.ite (.cmp .eq (.idx (.var 0) (.cst (.int 0))) (.cst (.str "drop"))) (.tup (.cons (.tup (.cons (.cst (.bl true)) (.cons (.tup (.cons (.cst (.str "there")) (.cons (.idx (.var 0) (.cst (.int 1))) .nil))) .nil))) .nil)) (.tup (.cons (.tup (.cons (.cst (.bl false)) (.cons (.tup (.cons (.cst (.str "as")) (.cons (.idx (.var 0) (.cst (.int 1))) (.cons (.idx (.var 0) (.cst (.int 2))) .nil)))) .nil))) .nil))))
  .nil)))
def fd_would_change : Fd := ⟨1, 1, b_would_change⟩
def nm_would_change : List PySem.Str := ["deed"]
def b_moved_0 : Ss :=
  (.cons (.expr (.bm .append (.var 2) (.cons (.tup (.cons (.var 3) (.cons (.ite (.cmp .eq (.idx (.var 4) (.cst (.int 0))) (.cst (.str "changed"))) (.tup (.cons (.cst (.str "changed")) (.cons (.idx (.var 1) (.idx (.var 4) (.cst (.int 1)))) .nil))) (.var 4)) .nil))) .nil)))
  .nil)
def b_moved : Ss :=
  (.cons (.asg (.t (.name 2)) (.mlst .nil))
  (.cons (.forS (.tup (.cons (.name 3) (.cons (.name 4) .nil))) .one (.cons (.var 0) .nil) b_moved_0)
  (.cons (.ret (.b1 .tuple_ (.var 2)))
  .nil)))
def fd_moved : Fd := ⟨2, 5, b_moved⟩
def nm_moved : List PySem.Str := ["when", "places", "found", "wanted", "fact"]
def b_ending_0 : Ss :=
  (.cons (.expr (.bm .append (.var 3) (.cons (.tup (.cons (.tup (.cons (.cst (.str "restart")) (.cons (.var 4) .nil))) (.cons (.bin .add (.var 2) (.tup (.cons (.tup (.cons (.cst (.bl true)) (.cons (.tup (.cons (.cst (.str "there")) (.cons (.idx (.var 1) (.var 4)) .nil))) .nil))) .nil))) (.cons (.tup .nil) .nil)))) .nil)))
  (.cons (.expr (.bm .append (.var 3) (.cons (.tup (.cons (.tup (.cons (.cst (.str "drop")) (.cons (.idx (.var 1) (.var 4)) .nil))) (.cons (.var 2) (.cons (.tup .nil) .nil)))) .nil)))
  .nil))
def b_ending : Ss :=
  (.cons (.asg (.t (.name 3)) (.mlst .nil))
  (.cons (.forS (.tup (.cons (.name 4) (.cons (.name 5) .nil))) .one (.cons (.idx (.var 0) (.cst (.int 0))) .nil) b_ending_0)
  (.cons (.ret (.frz (.var 3)))
  .nil)))
def fd_ending : Fd := ⟨3, 6, b_ending⟩
def nm_ending : List PySem.Str := ["playbook", "notes", "when", "found", "name", "files"]
def b_marked_0 : Ss :=
  (.cons (.ife (.or_ (.cmp .isin (.var 4) (.var 2)) (.and_ (.cmp .ne (.idx (.var 1) (.cst (.int 0))) (.cst (.str "restart"))) (.cmp .isin (.idx (.var 1) (.cst (.int 1))) (.var 5))))
  (.cons (.expr (.bm .append (.var 3) (.cons (.var 4) .nil)))
  .nil)
  .nil)
  .nil)
def b_marked : Ss :=
  (.cons (.asg (.t (.name 3)) (.mlst .nil))
  (.cons (.forS (.tup (.cons (.name 4) (.cons (.name 5) .nil))) .one (.cons (.idx (.var 0) (.cst (.int 0))) .nil) b_marked_0)
  (.cons (.ret (.frz (.var 3)))
  .nil)))
def fd_marked : Fd := ⟨3, 6, b_marked⟩
def nm_marked : List PySem.Str := ["playbook", "deed", "notify", "names", "name", "files"]
def b_guarded_0 : Ss :=
  (.cons (.expr (.bm .append (.var 2) (.cons (.tup (.cons (.tup (.cons (.cst (.str "put")) (.cons (.idx (.var 1) (.var 8)) (.cons (.cst (.str "")) .nil)))) (.cons (.bin .add (.var 7) (.call "would_change" (.cons (.var 4) .nil))) (.cons (.tup .nil) .nil)))) .nil)))
  .nil)
def b_guarded_1 : Ss :=
  (.cons (.asg (.t (.name 7)) (.call "moved" (.cons (.var 5) (.cons (.var 3) .nil))))
  (.cons (.ife (.cmp .eq (.idx (.var 4) (.cst (.int 0))) (.cst (.str "flush")))
  (.cons (.expr (.bm .append (.var 3) (.cons (.b1 .len (.var 2)) .nil)))
  (.cons (.asg (.t (.name 2)) (.addm (.var 2) (.call "ending" (.cons (.var 0) (.cons (.var 1) (.cons (.var 7) .nil))))))
  (.cons .cont
  .nil)))
  .nil)
  (.cons (.forS (.name 8) .one (.cons (.call "marked" (.cons (.var 0) (.cons (.var 4) (.cons (.var 6) .nil)))) .nil) b_guarded_0)
  (.cons (.expr (.bm .append (.var 3) (.cons (.b1 .len (.var 2)) .nil)))
  (.cons (.expr (.bm .append (.var 2) (.cons (.tup (.cons (.var 4) (.cons (.var 7) (.cons (.tup .nil) .nil)))) .nil)))
  (.cons (.ife (.and_ (.cmp .eq (.idx (.var 4) (.cst (.int 0))) (.cst (.str "restart"))) (.cmp .notin (.idx (.var 4) (.cst (.int 1))) (.var 6)))
  (.cons (.expr (.bm .append (.var 2) (.cons (.tup (.cons (.tup (.cons (.cst (.str "drop")) (.cons (.idx (.var 1) (.idx (.var 4) (.cst (.int 1)))) .nil))) (.cons (.tup (.cons (.tup (.cons (.cst (.bl true)) (.cons (.tup (.cons (.cst (.str "changed")) (.cons (.idx (.var 3) (.neg (.cst (.int 1)))) .nil))) .nil))) .nil)) (.cons (.tup .nil) .nil)))) .nil)))
  .nil)
  .nil)
  .nil))))))
def b_guarded : Ss :=
  (.cons (.expr (.call "need_playbook" (.cons (.var 0) .nil)))
  (.cons (.asg (.t (.tup (.cons (.name 1) (.cons (.name 2) (.cons (.name 3) .nil))))) (.tup (.cons (.call "notes_of" (.cons (.var 0) .nil)) (.cons (.mlst .nil) (.cons (.mlst .nil) .nil)))))
  (.cons (.forS (.tup (.cons (.name 4) (.cons (.name 5) (.cons (.name 6) .nil)))) .one (.cons (.idx (.var 0) (.cst (.int 1))) .nil) b_guarded_1)
  (.cons (.ret (.call "sound" (.cons (.tup (.cons (.idx (.var 0) (.cst (.int 0))) (.cons (.b1 .tuple_ (.bin .add (.var 2) (.call "ending" (.cons (.var 0) (.cons (.var 1) (.cons (.tup .nil) .nil)))))) .nil))) .nil)))
  .nil))))
def fd_guarded : Fd := ⟨1, 9, b_guarded⟩
def nm_guarded : List PySem.Str := ["playbook", "notes", "found", "places", "deed", "old", "notify", "when", "name"]
def b_need_index : Ss :=
  (.cons (.ife (.not_ (.call "is_number" (.cons (.var 1) (.cons (.cst (.int 0)) (.cons (.bin .sub (.b1 .len (.idx (.var 0) (.cst (.int 1)))) (.cst (.int 1))) .nil)))))
  (.cons (.raise_ "InvalidIndex")
  .nil)
  .nil)
  .nil)
def fd_need_index : Fd := ⟨2, 2, b_need_index⟩
def nm_need_index : List PySem.Str := ["playbook", "value"]
def b_condition_text : Ss :=
  (.cons (.asg (.t (.tup (.cons (.name 1) (.cons (.name 2) .nil)))) (.var 0))
  (.cons (.ret (.ite (.var 1) (.call "row_text" (.cons (.var 2) .nil)) (.bin .add (.cst (.str "not ")) (.call "row_text" (.cons (.var 2) .nil)))))
  .nil))
def fd_condition_text : Fd := ⟨1, 3, b_condition_text⟩
def nm_condition_text : List PySem.Str := ["condition", "wanted", "fact"]
def b_step_text : Ss :=
  (.cons (.expr (.call "need_playbook" (.cons (.var 0) .nil)))
  (.cons (.expr (.call "need_index" (.cons (.var 0) (.cons (.var 1) .nil))))
  (.cons (.ret (.call "text_of" (.cons (.idx (.idx (.var 0) (.cst (.int 1))) (.var 1)) .nil)))
  .nil)))
def fd_step_text : Fd := ⟨2, 2, b_step_text⟩
def nm_step_text : List PySem.Str := ["playbook", "index"]
def b_item_in : Ss :=
  (.cons (.ife (.cmp .eq (.var 1) (.cst (.str "t")))
  (.cons (.ret (.ite (.and_ (.cmp .gt (.b1 .len (.var 0)) (.cst (.int 1))) (.and_ (.cmp .eq (.idx (.var 0) (.cst (.int 0))) (.cst (.str "'"))) (.cmp .eq (.idx (.var 0) (.neg (.cst (.int 1)))) (.cst (.str "'"))))) (.slc (.var 0) (.yes (.cst (.int 1))) (.yes (.neg (.cst (.int 1))))) (.cst .non)))
  .nil)
  .nil)
  (.cons (.ife (.cmp .eq (.var 1) (.cst (.str "f")))
  (.cons (.ret (.var 0))
  .nil)
  .nil)
  (.cons (.ife (.or_ (.not_ (.chain .le .le (.cst (.int 1)) (.b1 .len (.var 0)) (.cst (.int 2)))) (.or_ (.not_ (.b1 .all_ (.lc [("sign", 2)] (.name 2) .one (.cons (.var 0) .nil) .no (.cmp .isin (.var 2) (.glb "DIGITS"))))) (.and_ (.cmp .eq (.idx (.var 0) (.cst (.int 0))) (.cst (.str "0"))) (.cmp .ne (.var 0) (.cst (.str "0"))))))
  (.cons (.ret (.cst .non))
  .nil)
  .nil)
  (.cons (.ret (.b1 .int_ (.var 0)))
  .nil))))
def fd_item_in : Fd := ⟨2, 3, b_item_in⟩
def nm_item_in : List PySem.Str := ["word", "kind", "sign"]
def b_row_in : Ss :=
  (.cons (.ife (.or_ (.cmp .eq (.var 0) (.lst .nil)) (.cmp .notin (.idx (.var 0) (.cst (.int 0))) (.var 1)))
  (.cons (.ret (.cst .non))
  .nil)
  .nil)
  (.cons (.asg (.t (.name 2)) (.idx (.var 1) (.idx (.var 0) (.cst (.int 0)))))
  (.cons (.ife (.cmp .le (.b1 .len (.var 0)) (.b1 .len (.var 2)))
  (.cons (.ret (.cst .non))
  .nil)
  .nil)
  (.cons (.asg (.t (.name 3)) (.lc [("word", 4), ("kind", 5)] (.tup (.cons (.name 4) (.cons (.name 5) .nil))) .zip (.cons (.slc (.var 0) (.yes (.cst (.int 1))) .no) (.cons (.var 2) .nil)) .no (.call "item_in" (.cons (.var 4) (.cons (.var 5) .nil)))))
  (.cons (.ife (.cmp .isin (.cst .non) (.var 3))
  (.cons (.ret (.cst .non))
  .nil)
  .nil)
  (.cons (.ret (.tup (.cons (.bin .add (.tup (.cons (.idx (.var 0) (.cst (.int 0))) .nil)) (.b1 .tuple_ (.var 3))) (.cons (.slc (.var 0) (.yes (.bin .add (.cst (.int 1)) (.b1 .len (.var 2)))) .no) .nil))))
  .nil))))))
def fd_row_in : Fd := ⟨2, 6, b_row_in⟩
def nm_row_in : List PySem.Str := ["words", "kinds", "wanted", "items", "word", "kind"]
def b_shifted : Ss :=
  (.cons (.asg (.t (.tup (.cons (.name 3) (.cons (.name 4) (.cons (.name 5) .nil))))) (.var 0))
  (.cons (.asg (.t (.name 2)) (.lc [("wanted", 6), ("fact", 7)] (.tup (.cons (.name 6) (.cons (.name 7) .nil))) .one (.cons (.var 4) .nil) .no (.tup (.cons (.var 6) (.cons (.ite (.cmp .eq (.idx (.var 7) (.cst (.int 0))) (.cst (.str "changed"))) (.tup (.cons (.cst (.str "changed")) (.cons (.bin .add (.idx (.var 7) (.cst (.int 1))) (.var 1)) .nil))) (.var 7)) .nil)))))
  (.cons (.ret (.tup (.cons (.var 3) (.cons (.b1 .tuple_ (.var 2)) (.cons (.var 5) .nil)))))
  .nil)))
def fd_shifted : Fd := ⟨2, 8, b_shifted⟩
def nm_shifted : List PySem.Str := ["step", "many", "found", "deed", "when", "notify", "wanted", "fact"]
def b__law_moved_0 : Ss :=
  (.cons (.asg (.t (.name 9)) (.ite (.cmp .eq (.idx (.var 8) (.cst (.int 0))) (.cst (.str "changed"))) (.tup (.cons (.cst (.str "changed")) (.cons (.bin .add (.idx (.var 8) (.cst (.int 1))) (.var 1)) .nil))) (.var 8)))
  (.cons (.asg (.t (.name 6)) (.bin .add (.var 6) (.tup (.cons (.tup (.cons (.var 7) (.cons (.var 9) .nil))) .nil))))
  .nil))
def b__law_moved_1 : Ss :=
  (.cons (.asg (.t (.name 6)) (.tup .nil))
  (.cons (.forS (.tup (.cons (.name 7) (.cons (.name 8) .nil))) .one (.cons (.var 4) .nil) b__law_moved_0)
  (.cons (.asg (.t (.name 2)) (.bin .add (.var 2) (.tup (.cons (.tup (.cons (.var 3) (.cons (.var 6) (.cons (.var 5) .nil)))) .nil))))
  .nil)))
def b__law_moved : Ss :=
  (.cons (.asg (.t (.name 2)) (.tup .nil))
  (.cons (.forS (.tup (.cons (.name 3) (.cons (.name 4) (.cons (.name 5) .nil)))) .one (.cons (.var 0) .nil) b__law_moved_1)
  (.cons (.ret (.var 2))
  .nil)))
def fd__law_moved : Fd := ⟨2, 10, b__law_moved⟩
def nm__law_moved : List PySem.Str := ["steps", "many", "found", "deed", "when", "notify", "rows", "wanted", "fact", "here"]
end Hd
set_option Elab.async false
set_option linter.all false
set_option maxRecDepth 100000
set_option maxHeartbeats 4000000
/-! MP28: reasoning about the evaluator. -/
namespace MP
open PySem PySem.Spec L2
/-! ### outcomes -/
@[irreducible] def Sat {α : Type} (r : R α) (Q : α → Hq → Prop) : Prop := match r with
  | .ok a h => Q a h
  | _ => False
@[irreducible] def SatS (r : RS) (N : Sto → Hq → Prop) (T : W → Hq → Prop) : Prop := match r with
  | .nx s h => N s h
  | .rt w h => T w h
  | _ => False
section
variable {α β : Type} {r : R α} {f : α → Hq → R β} {Q Q' : α → Hq → Prop} {QB : β → Hq → Prop} {N N' : Sto → Hq → Prop} {T T' : W → Hq → Prop} {s : Sto} {h : Hq} {a : α}
theorem Sat.ok_eq : Sat (.ok a h) Q = Q a h := by unfold Sat; rfl
theorem Sat.exc_eq {c : Str} : Sat (.exc c h : R α) Q = False := by unfold Sat; rfl
theorem Sat.bad_eq : Sat (.bad : R α) Q = False := by unfold Sat; rfl
theorem SatS.nx_eq : SatS (.nx s h) N T = N s h := by unfold SatS; rfl
theorem SatS.rt_eq {w : W} : SatS (.rt w h) N T = T w h := by unfold SatS; rfl
theorem SatS.bk_eq : SatS (.bk s h) N T = False := by unfold SatS; rfl
theorem SatS.ct_eq : SatS (.ct s h) N T = False := by unfold SatS; rfl
theorem SatS.exc_eq {c : Str} : SatS (.exc c s h) N T = False := by unfold SatS; rfl
theorem SatS.bad_eq : SatS .bad N T = False := by unfold SatS; rfl
theorem SatS.out {x : RS} (q : SatS x N T) : (∃ s h, x = .nx s h ∧ N s h) ∨ ∃ w h, x = .rt w h ∧ T w h := by
  unfold SatS at q
  cases x with
  | nx s h => exact .inl ⟨s, h, rfl, q⟩
  | rt w h => exact .inr ⟨w, h, rfl, q⟩
  | _ => exact q.elim
theorem Sat.ok (q : Q a h) : Sat (.ok a h) Q := by rw [Sat.ok_eq]; exact q
theorem Sat.bind (q : Sat r fun a h => Sat (f a h) QB) : Sat (r.bind f) QB := by
  obtain ⟨a, h, rfl, q2⟩ := (show ∃ a h, r = .ok a h ∧ Sat (f a h) QB by
    unfold Sat at q
    cases r with
    | ok a h => exact ⟨a, h, rfl, by unfold Sat; exact q⟩
    | _ => exact q.elim)
  exact q2
theorem Sat.imp (q : Sat r Q) (g : ∀ a h, Q a h → Q' a h) : Sat r Q' := by
  unfold Sat at *
  cases r <;> first | exact g _ _ q | exact q
theorem Sat.ex (q : Sat r Q) : ∃ a h, r = .ok a h ∧ Q a h := by
  unfold Sat at q
  cases r with
  | ok a h => exact ⟨a, h, rfl, q⟩
  | exc c h => exact q.elim
  | bad => exact q.elim
theorem Sat.of_eq (e : r = .ok a h) (q : Q a h) : Sat r Q := by rw [e, Sat.ok_eq]; exact q
theorem Sat.noExc (q : Sat r Q) : Sat (noExc r) Q := by
  unfold Sat at *
  cases r <;> exact q
theorem Sat.tst {r : R W} {Q : Bool → Hq → Prop} (q : Sat r fun w h => ∃ b, w = .bl b ∧ Q b h) : Sat (tstR r) Q := by
  unfold Sat at *
  cases r with
  | ok w h => obtain ⟨b, rfl, q⟩ := q; exact q
  | exc c h => exact q.elim
  | bad => exact q.elim
theorem Sat.toS {g : α → Hq → RS} (q : Sat r fun a h => SatS (g a h) N T) : SatS (r.toS s g) N T := by
  obtain ⟨a, h, rfl, q2⟩ := q.ex
  exact q2
theorem SatS.seq {x : RS} {g : Sto → Hq → RS} (q : SatS x (fun s h => SatS (g s h) N T) T) : SatS (x.seq g) N T := by
  rcases q.out with ⟨s, h, rfl, q2⟩ | ⟨w, h, rfl, q2⟩
  · exact q2
  · show SatS (.rt w h) N T
    rw [SatS.rt_eq]; exact q2
theorem SatS.imp {x : RS} (q : SatS x N T) (g : ∀ s h, N s h → N' s h) (k : ∀ w h, T w h → T' w h) : SatS x N' T' := by
  unfold SatS at *
  cases x with
  | nx s h => exact g _ _ q
  | rt w h => exact k _ _ q
  | _ => exact q.elim
/-! ### loops -/
theorem SatS.for_ {t : MP.T} {body : Sto → Hq → RS} (I : List W → Sto → Hq → Prop) (step : ∀ w ws s h, I (w :: ws) s h → ∃ s', asgT t w s = some s' ∧ SatS (body s' h) (I ws) T) (last : ∀ s h, I [] s h → N s h) :
    ∀ {xs : List W} {s : Sto} {h : Hq}, I xs s h → SatS (forLoop t body xs s h) N T
  | [], s, h, q => by
    show SatS (.nx s h) N T
    rw [SatS.nx_eq]; exact last s h q
  | w :: ws, s, h, q => by
    obtain ⟨s', e, b⟩ := step w ws s h q
    unfold forLoop
    rw [e]
    dsimp only
    rcases b.out with ⟨s2, h2, eb, q⟩ | ⟨w2, h2, eb, q⟩
    · rw [eb]; exact SatS.for_ I step last q
    · rw [eb]
      show SatS (.rt w2 h2) N T
      rw [SatS.rt_eq]; exact q
theorem Sat.lc {f : W → Hq → R (Option W)} {Q : List W → Hq → Prop} (I : List W → List W → Hq → Prop) (step : ∀ w ws acc h, I (w :: ws) acc h → Sat (f w h) fun o h1 => match o with
      | some y => acc.length < line ∧ I ws (acc ++ [y]) h1
      | none => I ws acc h1) (last : ∀ acc h, I [] acc h → Q acc h) : ∀ {xs acc : List W} {h : Hq}, I xs acc h → Sat (lcLoop f xs acc h) Q
  | [], acc, h, q => by
    show Sat (.ok acc h) Q
    rw [Sat.ok_eq]; exact last acc h q
  | w :: ws, acc, h, q => by
    unfold lcLoop
    refine Sat.bind ((step w ws acc h q).imp fun o h1 z => ?_)
    cases o with
    | some y => dsimp only at z ⊢; rw [if_pos z.1]; exact Sat.lc I step last z.2
    | none => exact Sat.lc I step last z
/-- a comprehension that changes nothing -/
theorem lc_pure {f : W → Hq → R (Option W)} {g : W → Option W} {h : Hq} : ∀ {xs acc : List W}, (∀ w ∈ xs, f w h = .ok (g w) h) → acc.length + xs.length ≤ line → lcLoop f xs acc h = .ok (acc ++ xs.filterMap g) h
  | [], acc, _, _ => by simp [lcLoop]
  | w :: ws, acc, hf, hl => by
    unfold lcLoop
    rw [hf w (by simp)]
    show (match g w with
      | some y => if acc.length < line then lcLoop f ws (acc ++ [y]) h else .bad
      | none => lcLoop f ws acc h) = _
    rw [List.length_cons] at hl
    cases e : g w with
    | none =>
      show lcLoop f ws acc h = _
      rw [lc_pure (fun w hw => hf w (by simp [hw])) (by omega), List.filterMap_cons, e]
    | some y =>
      show (if acc.length < line then lcLoop f ws (acc ++ [y]) h else .bad) = _
      rw [if_pos (by omega), lc_pure (fun w hw => hf w (by simp [hw])) (by simp; omega), List.filterMap_cons, e]
      simp
end
/-! ### the end of a call -/
mutual
theorem W.beq_refl : ∀ a : W, W.beq a a = true
  | .non => rfl
  | .bl x => by unfold W.beq; simp
  | .int x => by unfold W.beq; simp
  | .str x => by unfold W.beq; simp
  | .tup x => by unfold W.beq; exact W.beqL_refl x
  | .lst x => by unfold W.beq; exact W.beqL_refl x
  | .dct x => by unfold W.beq; exact W.beqK_refl x
  | .ref x => by unfold W.beq; simp
  | .scr x => by unfold W.beq; simp
theorem W.beqL_refl : ∀ a : List W, W.beqL a a = true
  | [] => rfl
  | a :: as => by unfold W.beqL; rw [W.beq_refl a, W.beqL_refl as]; rfl
theorem W.beqK_refl : ∀ a : List (Key × W), W.beqK a a = true
  | [] => rfl
  | (k, a) :: as => by unfold W.beqK; rw [W.beq_refl a, W.beqK_refl as]; simp
end
theorem beqF_refl : ∀ a : List (Str × W), beqF a a = true
  | [] => rfl
  | (k, a) :: as => by unfold beqF; rw [W.beq_refl a, beqF_refl as]; simp
theorem O.beq_refl : ∀ a : O, O.beq a a = true
  | .lst x => by unfold O.beq; exact W.beqL_refl x
  | .dct x => by unfold O.beq; exact W.beqK_refl x
  | .ins c x => by
    show (decide (c = c) && beqF x x) = true
    rw [beqF_refl x]; simp
  | .dead => rfl
/-- what was there is as it was, or leads nowhere new -/
def Pre (h h2 : Hq) : Prop := h2.length = h.length ∧ ∀ (i : Nat) (a b : O), h[i]? = some a → h2[i]? = some b → a = b ∨ O.fits h.length b = true
theorem pre_ok {n : Nat} {l : Hq} : ∀ {h h2 : Hq}, h2.length = h.length → (∀ (i : Nat) (a b : O), h[i]? = some a → h2[i]? = some b → a = b ∨ O.fits n b = true) → preOk n h (h2 ++ l) = true
  | [], _, _, _ => rfl
  | a :: as, [], h, _ => by simp at h
  | a :: as, b :: bs, hl, f => by
    rw [List.cons_append]
    unfold preOk
    rw [pre_ok (by simpa using hl) fun i x y e1 e2 => f (i + 1) x y (by simpa using e1) (by simpa using e2)]
    rcases f 0 a b rfl rfl with rfl | z
    · rw [O.beq_refl]; rfl
    · rw [z]; simp
theorem trim_eq {h h2 l : Hq} (p : Pre h h2) : trim h (h2 ++ l) = h2 := by
  unfold trim
  rw [if_pos (pre_ok p.1 p.2), ← p.1, List.take_left]
theorem Pre.refl (h : Hq) : Pre h h := ⟨rfl, fun i a b e1 e2 => by rw [e1] at e2; cases e2; exact .inl rfl⟩
theorem Pre.trans {h h1 h2 : Hq} (p : Pre h h1) (q : Pre h1 h2) : Pre h h2 := ⟨q.1.trans p.1, fun i a c e1 e3 => by
  have hi : i < h1.length := by rw [p.1]; exact (List.getElem?_eq_some_iff.mp e1).1
  rcases q.2 i h1[i] c (List.getElem?_eq_getElem hi) e3 with z | z
  · rw [← z]; exact p.2 i a _ e1 (List.getElem?_eq_getElem hi)
  · rw [p.1] at z; exact .inr z⟩
section
variable {G : Gam} {fd : Fd} {ws : List W} {h : Hq} {Q : W → Hq → Prop}
theorem Sat.runB (hl : ws.length = fd.np) (q : SatS (evSs G fd.body (ws.map some ++ List.replicate (fd.ns - ws.length) none) h) (fun _ h => Q .non h) Q) : Sat (runB G fd ws h) Q := by
  unfold MP.runB
  rw [if_pos hl]
  rcases q.out with ⟨s2, h2, eb, q⟩ | ⟨w2, h2, eb, q⟩
  · rw [eb]
    exact Sat.ok q
  · rw [eb]
    exact Sat.ok q
/-- a call: its result leads nowhere new; what was there is h2; the rest is let go -/
theorem Sat.runF (hl : ws.length = fd.np) (q : SatS (evSs G fd.body (ws.map some ++ List.replicate (fd.ns - ws.length) none) h) (fun _ h' => ∃ h2 l, h' = h2 ++ l ∧ Pre h h2 ∧ Q .non h2) (fun w h' => ∃ h2 l, h' = h2 ++ l ∧ Pre h h2 ∧ W.fits h.length w = true ∧ Q w h2)) :
    Sat (runF G fd ws h) Q := by
  unfold MP.runF
  have b := Sat.runB (Q := fun w h' => ∃ h2 l, h' = h2 ++ l ∧ Pre h h2 ∧ W.fits h.length w = true ∧ Q w h2) hl (q.imp (fun _ h' ⟨h2, l, e, p, z⟩ => ⟨h2, l, e, p, rfl, z⟩) fun _ _ z => z)
  obtain ⟨w, h', e, h2, l, e2, p, f, z⟩ := b.ex
  rw [e]
  unfold exit1
  dsimp only
  rw [if_pos f, e2, trim_eq p]
  exact Sat.ok z
/-- a call whose result is a new object: nothing is let go -/
theorem Sat.runFN (hl : ws.length = fd.np) (q : SatS (evSs G fd.body (ws.map some ++ List.replicate (fd.ns - ws.length) none) h) (fun _ _ => False) (fun w h' => W.fits h.length w = false ∧ Q w h')) : Sat (MP.runF G fd ws h) Q := by
  unfold MP.runF
  have b := Sat.runB (Q := fun w h' => W.fits h.length w = false ∧ Q w h') hl (q.imp (fun _ _ z => z.elim) fun _ _ z => z)
  obtain ⟨w, h', e, f, z⟩ := b.ex
  rw [e]
  unfold exit1
  dsimp only
  rw [if_neg (by rw [f]; exact Bool.false_ne_true)]
  exact Sat.ok z
end
theorem gam_fn {P : Prog} {n : Nat} {f : Str} {fd : Fd} {ws : List W} {h : Hq} (hn : 1 ≤ n) (hl : P.fns.lookup f = some fd) : (gam P n).fn f ws h = runF (gam P (n - 1)) fd ws h := by
  cases n with
  | zero => omega
  | succ n =>
    show (match P.fns.lookup f with | some fd => runF (gam P n) fd ws h | none => .bad) = _
    rw [hl]; rfl
theorem Sat.call {P : Prog} {n : Nat} {f : Str} {fd : Fd} {ws : List W} {h : Hq} {Q : W → Hq → Prop} (hn : 1 ≤ n) (hl : P.fns.lookup f = some fd) (q : Sat (MP.runF (gam P (n - 1)) fd ws h) Q) : Sat ((gam P n).fn f ws h) Q := by
  rw [gam_fn hn hl]; exact q
end MP
set_option Elab.async false
set_option linter.all false
set_option maxRecDepth 100000
set_option maxHeartbeats 4000000
/-! MP29: the evaluator's equations. -/
namespace MP
open PySem PySem.Spec L2
section
variable {G : Gam} {s : Sto} {h : Hq} {α β : Type} {a : α} {f : α → Hq → R β} {g : α → Hq → RS} {c : Str}
@[simp] theorem x_bind_ok : (R.ok a h).bind f = f a h := rfl
@[simp] theorem x_bind_exc : (R.exc c h : R α).bind f = .exc c h := rfl
@[simp] theorem x_toS_ok : (R.ok a h).toS s g = g a h := rfl
@[simp] theorem x_toS_exc : (R.exc c h : R α).toS s g = .exc c s h := rfl
@[simp] theorem x_seq_nx {k : Sto → Hq → RS} : (RS.nx s h).seq k = k s h := rfl
@[simp] theorem x_seq_rt {k : Sto → Hq → RS} {w : W} : (RS.rt w h).seq k = .rt w h := rfl
@[simp] theorem x_seq_exc {k : Sto → Hq → RS} : (RS.exc c s h).seq k = .exc c s h := rfl
@[simp] theorem x_tst {b : Bool} : tstR (.ok (.bl b) h) = .ok b h := rfl
@[simp] theorem x_opt {o : α} : optR (some o) h = .ok o h := rfl
@[simp] theorem x_noExc : noExc (.ok a h) = .ok a h := rfl
@[simp] theorem x_cst {w : W} : evE G (.cst w) s h = .ok w h := by rw [evE]
@[simp] theorem x_var {i : Nat} : evE G (.var i) s h = (match s[i]? with
    | some (some w) => .ok w h
    | _ => .bad) := by rw [evE] <;> rfl
@[simp] theorem x_glb {x : Str} : evE G (.glb x) s h = optR (G.con x) h := by rw [evE]
@[simp] theorem x_tup {es : Es} : evE G (.tup es) s h = (evEs G es s h).bind fun ws h => .ok (.tup ws) h := by rw [evE]
@[simp] theorem x_lst {es : Es} : evE G (.lst es) s h = (evEs G es s h).bind fun ws h => .ok (.lst ws) h := by rw [evE]
@[simp] theorem x_mlst {es : Es} : evE G (.mlst es) s h = (evEs G es s h).bind fun ws h => .ok (.ref h.length) (h ++ [.lst ws]) := by rw [evE]
@[simp] theorem x_frz {e : E} : evE G (.frz e) s h = (evE G e s h).bind fun w h => (match w with
    | .ref i => match h[i]? with
      | some (.lst ws) => .ok (.lst ws) (h.set i .dead)
      | some (.dct kvs) => .ok (.dct kvs) (h.set i .dead)
      | _ => .bad
    | _ => .bad) := by rw [evE] <;> rfl
@[simp] theorem x_bin {o : Bop} {x y : E} : evE G (.bin o x y) s h = (evE G x s h).bind fun u h => (evE G y s h).bind fun v h => optR (binW o (vw h u) (vw h v)) h := by rw [evE]
@[simp] theorem x_addm {x y : E} : evE G (.addm x y) s h = (evE G x s h).bind fun u h => (evE G y s h).bind fun v h => (match vw h u, vw h v with
    | .lst as, .lst bs => if as.length + bs.length ≤ line then .ok (.ref h.length) (h ++ [.lst (as ++ bs)]) else .bad
    | _, _ => .bad) := by rw [evE] <;> rfl
@[simp] theorem x_neg {x : E} : evE G (.neg x) s h = (evE G x s h).bind fun u h => (match u with
    | .int i => .ok (.int (-i)) h
    | _ => .bad) := by rw [evE] <;> rfl
@[simp] theorem x_cmp {o : Cop} {x y : E} : evE G (.cmp o x y) s h = (evE G x s h).bind fun u h => (evE G y s h).bind fun v h => (optR (cmpW o (vw h u) (vw h v)) h).bind fun b h => .ok (.bl b) h := by rw [evE]
@[simp] theorem x_chain {o p : Cop} {x y z : E} : evE G (.chain o p x y z) s h = (evE G x s h).bind fun u h => (evE G y s h).bind fun v h => (optR (cmpW o (vw h u) (vw h v)) h).bind fun k h => (match k with
    | true => (evE G z s h).bind fun t h => (optR (cmpW p (vw h v) (vw h t)) h).bind fun b h => .ok (.bl b) h
    | false => .ok (.bl false) h) := by rw [evE] <;> rfl
@[simp] theorem x_and {x y : E} : evE G (.and_ x y) s h = (tstR (evE G x s h)).bind fun c h => (match c with
    | true => (tstR (evE G y s h)).bind fun c h => .ok (.bl c) h
    | false => .ok (.bl false) h) := by rw [evE] <;> rfl
@[simp] theorem x_or {x y : E} : evE G (.or_ x y) s h = (tstR (evE G x s h)).bind fun c h => (match c with
    | true => .ok (.bl true) h
    | false => (tstR (evE G y s h)).bind fun c h => .ok (.bl c) h) := by rw [evE] <;> rfl
@[simp] theorem x_not {x : E} : evE G (.not_ x) s h = (tstR (evE G x s h)).bind fun c h => .ok (.bl (!c)) h := by rw [evE]
@[simp] theorem x_ite {x y z : E} : evE G (.ite x y z) s h = (tstR (evE G x s h)).bind fun k h => (match k with
    | true => evE G y s h
    | false => evE G z s h) := by rw [evE] <;> rfl
@[simp] theorem x_idx {x y : E} : evE G (.idx x y) s h = (evE G x s h).bind fun u h => (evE G y s h).bind fun v h => optR (idxW (vw h u) v) h := by rw [evE]
@[simp] theorem x_slc {x : E} {lo hi : Eo} : evE G (.slc x lo hi) s h = (evE G x s h).bind fun u h => (evEo G lo s h).bind fun l h => (evEo G hi s h).bind fun t h => optR (slcW (vw h u) l t) h := by rw [evE]
@[simp] theorem x_call {k : Str} {es : Es} : evE G (.call k es) s h = (evEs G es s h).bind fun ws h => G.fn k ws h := by rw [evE]
@[simp] theorem x_b1 {k : Bf} {x : E} : evE G (.b1 k x) s h = (evE G x s h).bind fun u h => optR (b1W k (vw h u)) h := by rw [evE]
@[simp] theorem x_b2 {k : Bf2} {x y : E} : evE G (.b2 k x y) s h = (evE G x s h).bind fun u h => (evE G y s h).bind fun v h => optR (b2W k u v) h := by rw [evE]
@[simp] theorem x_bm {m : Bm} {x : E} {es : Es} : evE G (.bm m x es) s h = (evE G x s h).bind fun u h => (match bmOk m u h with
    | true => (evEs G es s h).bind fun ws h => bmW m u ws h
    | false => .bad) := by rw [evE] <;> rfl
@[simp] theorem x_isi {x : E} {t : Ty} : evE G (.isi x t) s h = (evE G x s h).bind fun u h => (match typW (vw h u) with
    | some k => .ok (.bl (isiB k t)) h
    | none => .bad) := by rw [evE] <;> rfl
@[simp] theorem x_sset {x : E} : evE G (.sset x) s h = (evE G x s h).bind fun u h => optR (ssetW (vw h u)) h := by rw [evE]
@[simp] theorem x_srt {mu : Bool} {x : E} : evE G (.srt mu x) s h = (evE G x s h).bind fun u h => (match vw h u with
    | .lst ws => if sortOk ws = true then (match mu with
      | true => .ok (.ref h.length) (h ++ [.lst (sortW ws)])
      | false => .ok (.lst (sortW ws)) h) else .bad
    | _ => .bad) := by rw [evE] <;> rfl
@[simp] theorem x_dsp {ks : List Str} {es : Es} : evE G (.dsp ks es) s h = (evEs G es s h).bind fun ws h => .ok (.dct ((ks.map Sum.inr).zip ws)) h := by rw [evE]
@[simp] theorem x_lc {own : List (Str × Nat)} {t : T} {k : Ik} {its : Es} {cond : Eo} {elt : E} : evE G (.lc own t k its cond elt) s h = (evEs G its s h).bind fun ws h => (match itemsW k ws with
    | some xs => (lcLoop (lcF G t (own.map (·.2)) cond elt s) xs [] h).bind fun ys h => .ok (.lst ys) h
    | none => .bad) := by rw [evE] <;> rfl
theorem x_lc2 {own : List (Str × Nat)} {vs1 : List Nat} {t t1 : T} {k : Ik} {its : Es} {it1 elt : E} : evE G (.lc2 own vs1 t k its t1 it1 elt) s h = (evEs G its s h).bind fun ws h => (match itemsW k ws with
    | some xs => (lcLoop2 (lcF2 G t (own.map (·.2)) vs1 it1 t1 elt s) xs [] h).bind fun ys h => .ok (.lst ys) h
    | none => .bad) := by
  rw [evE]
  unfold lcF2
  simp only [lcF_no]
  try rfl
@[simp] theorem x_es_nil : evEs G .nil s h = .ok [] h := by rw [evEs]
@[simp] theorem x_es_cons {x : E} {es : Es} : evEs G (.cons x es) s h = (evE G x s h).bind fun w h => (evEs G es s h).bind fun ws h => .ok (w :: ws) h := by rw [evEs]
@[simp] theorem x_eo_no : evEo G .no s h = .ok none h := by rw [evEo]
@[simp] theorem x_eo_yes {x : E} : evEo G (.yes x) s h = (evE G x s h).bind fun w h => (match w with
    | .int i => .ok (some i) h
    | _ => .bad) := by rw [evEo] <;> rfl
@[simp] theorem x_ec_no : evEc G .no s h = .ok true h := by rw [evEc]
@[simp] theorem x_ec_yes {x : E} : evEc G (.yes x) s h = noExc (tstR (evE G x s h)) := by rw [evEc]
/-! statements -/
@[simp] theorem x_ret {x : E} : evS G (.ret x) s h = (evE G x s h).toS s fun w h => .rt w h := by rw [evS]
@[simp] theorem x_retN : evS G .retN s h = .rt .non h := by rw [evS]
@[simp] theorem x_asg {t : Tg} {x : E} : evS G (.asg t x) s h = (evE G x s h).toS s fun w h => asgTg G t w s h := by rw [evS]
@[simp] theorem x_ife {x : E} {p q : Ss} : evS G (.ife x p q) s h = (tstR (evE G x s h)).toS s fun k h => (match k with
    | true => evSs G p s h
    | false => evSs G q s h) := by rw [evS] <;> rfl
@[simp] theorem x_for {t : T} {k : Ik} {its : Es} {body : Ss} : evS G (.forS t k its body) s h = (evEs G its s h).toS s fun ws h => (match itemsW k ws with
    | some xs => forLoop t (fun s h => evSs G body s h) xs s h
    | none => .bad) := by rw [evS] <;> rfl
@[simp] theorem x_expr {x : E} : evS G (.expr x) s h = (evE G x s h).toS s fun _ h => .nx s h := by rw [evS]
@[simp] theorem x_raise {k : Str} : evS G (.raise_ k) s h = .exc k s h := by rw [evS]
@[simp] theorem x_ss_nil : evSs G .nil s h = .nx s h := by rw [evSs]
@[simp] theorem x_ss_cons {x : S} {ss : Ss} : evSs G (.cons x ss) s h = (evS G x s h).seq fun s h => evSs G ss s h := by rw [evSs]
@[simp] theorem x_tg {t : T} {w : W} : asgTg G (.t t) w s h = (match asgT t w s with
    | some s' => .nx s' h
    | none => .bad) := rfl
@[simp] theorem x_asg_name {i : Nat} {w : W} : asgT (.name i) w s = some (s.set i (some w)) := by rw [asgT]
@[simp] theorem x_asg_tup {ts : Ts} {ws : List W} : asgT (.tup ts) (.tup ws) s = asgTs ts ws s := by rw [asgT]
@[simp] theorem x_asgs_nil : asgTs .nil [] s = some s := by rw [asgTs]
@[simp] theorem x_asgs_cons {t : T} {ts : Ts} {w : W} {ws : List W} : asgTs (.cons t ts) (w :: ws) s = (match asgT t w s with
    | some s' => asgTs ts ws s'
    | none => none) := by rw [asgTs] <;> rfl
@[simp] theorem x_vw_non : vw h .non = .non := rfl
@[simp] theorem x_vw_bl {b : Bool} : vw h (.bl b) = .bl b := rfl
@[simp] theorem x_vw_int {b : Int} : vw h (.int b) = .int b := rfl
@[simp] theorem x_vw_str {b : Str} : vw h (.str b) = .str b := rfl
@[simp] theorem x_vw_tup {b : List W} : vw h (.tup b) = .tup b := rfl
@[simp] theorem x_vw_lst {b : List W} : vw h (.lst b) = .lst b := rfl
@[simp] theorem x_vw_dct {b : List (Key × W)} : vw h (.dct b) = .dct b := rfl
@[simp] theorem x_vw_scr {b : List Int} : vw h (.scr b) = .scr b := rfl
@[simp] theorem s_ok {Q : α → Hq → Prop} : Sat (.ok a h) Q = Q a h := Sat.ok_eq
@[simp] theorem s_nx {N : Sto → Hq → Prop} {T : W → Hq → Prop} : SatS (.nx s h) N T = N s h := SatS.nx_eq
@[simp] theorem s_rt {N : Sto → Hq → Prop} {T : W → Hq → Prop} {w : W} : SatS (.rt w h) N T = T w h := SatS.rt_eq
end
/-- a pure end: nothing was laid -/
theorem fin0 {h : Hq} {Q : Hq → Prop} (q : Q h) : ∃ h2 l, h = h2 ++ l ∧ Pre h h2 ∧ Q h2 := ⟨h, [], by simp, Pre.refl h, q⟩
theorem fin1 {h : Hq} {w : W} {Q : W → Hq → Prop} (f : W.fits h.length w = true) (q : Q w h) : ∃ h2 l, h = h2 ++ l ∧ Pre h h2 ∧ W.fits h.length w = true ∧ Q w h2 := ⟨h, [], by simp, Pre.refl h, f, q⟩
/-- a function that changes nothing and gives w -/
theorem pure_call {P : Prog} {n : Nat} {f : Str} {fd : Fd} {ws : List W} {h : Hq} {w : W} (hn : 1 ≤ n) (hl : P.fns.lookup f = some fd) (hp : ws.length = fd.np) (q : SatS (evSs (gam P (n - 1)) fd.body (ws.map some ++ List.replicate (fd.ns - ws.length) none) h) (fun _ h' => w = .non ∧ h' = h) (fun w' h' => w' = w ∧ h' = h)) (f1 : W.fits h.length w = true) :
    (gam P n).fn f ws h = .ok w h := by
  obtain ⟨w', h', e, rfl, rfl⟩ := (show Sat ((gam P n).fn f ws h) (fun w' h' => w' = w ∧ h' = h) from Sat.call hn hl (Sat.runF hp (q.imp (fun _ h' z => ⟨h, [], by simp [z.2], Pre.refl h, z.1.symm, rfl⟩) fun w' h' z => ⟨h, [], by simp [z.2], Pre.refl h, by rw [z.1]; exact f1, z.1, rfl⟩))).ex
  exact e
/-- a comprehension without a test, over encoded things -/
theorem lc_enc {α : Type} {enc : α → W} {f : W → Hq → R (Option W)} {g : α → W} {h : Hq} {l : List α} (hf : ∀ a ∈ l, f (enc a) h = .ok (some (g a)) h) (hl : l.length ≤ line) : lcLoop f (l.map enc) [] h = .ok (l.map g) h := by
  have key : ∀ (l : List α) (acc : List W), (∀ a ∈ l, f (enc a) h = .ok (some (g a)) h) → acc.length + l.length ≤ line → lcLoop f (l.map enc) acc h = .ok (acc ++ l.map g) h := by
    intro l
    induction l with
    | nil => intro acc _ _; simp [lcLoop]
    | cons a l ih =>
      intro acc hf hl
      rw [List.map_cons]
      show (f (enc a) h).bind _ = _
      rw [hf a (by simp)]
      show (if acc.length < line then lcLoop f (l.map enc) (acc ++ [g a]) h else .bad) = _
      rw [List.length_cons] at hl
      rw [if_pos (by omega), ih _ (fun b hb => hf b (by simp [hb])) (by simp; omega)]
      simp
  simpa using key l [] hf (by simpa using hl)
/-- the same with a test -/
theorem lc_filter {α : Type} {enc : α → W} {f : W → Hq → R (Option W)} {p : α → Bool} {g : α → W} {h : Hq} {l : List α} (hf : ∀ a ∈ l, f (enc a) h = .ok (if p a then some (g a) else none) h) (hl : l.length ≤ line) : lcLoop f (l.map enc) [] h = .ok ((l.filter p).map g) h := by
  have key : ∀ (l : List α) (acc : List W), (∀ a ∈ l, f (enc a) h = .ok (if p a then some (g a) else none) h) → acc.length + l.length ≤ line → lcLoop f (l.map enc) acc h = .ok (acc ++ (l.filter p).map g) h := by
    intro l
    induction l with
    | nil => intro acc _ _; simp [lcLoop]
    | cons a l ih =>
      intro acc hf hl
      rw [List.map_cons]
      show (f (enc a) h).bind _ = _
      rw [hf a (by simp)]
      rw [List.length_cons] at hl
      cases hp : p a with
      | true =>
        show (if acc.length < line then lcLoop f (l.map enc) (acc ++ [g a]) h else .bad) = _
        rw [if_pos (by omega), ih _ (fun b hb => hf b (by simp [hb])) (by simp; omega)]
        simp [hp]
      | false =>
        show lcLoop f (l.map enc) acc h = _
        rw [ih _ (fun b hb => hf b (by simp [hb])) (by omega)]
        simp [hp]
  simpa using key l [] hf (by simpa using hl)
@[simp] theorem bls_map {α : Type} (p : α → Bool) (l : List α) : blsOf (l.map fun a => W.bl (p a)) = some (l.map p) := by
  induction l with
  | nil => rfl
  | cons a l ih => simp [blsOf, ih]
@[simp] theorem strs_map {α : Type} (p : α → Str) (l : List α) : strsOf (l.map fun a => W.str (p a)) = some (l.map p) := by
  induction l with
  | nil => rfl
  | cons a l ih => simp [strsOf, ih]
theorem strs_map' (l : List Str) : strsOf (l.map W.str) = some l := by
  have := strs_map (fun a : Str => a) l
  simpa using this
end MP
set_option Elab.async false
set_option linter.all false
namespace Hd
open PySem PySem.Spec L2 MP
/-- a program has a function -/
class HasF (P : MP.Prog) (f : PySem.Str) (fd : Fd) : Prop where
  lk : P.fns.lookup f = some fd
class LibA (P : MP.Prog) : Prop where
  c_LETTERS : P.con.lookup ("LETTERS" : PySem.Str) = some (.str "abcdefghijklmnopqrstuvwxyz")
  c_MOST_STEPS : P.con.lookup ("MOST_STEPS" : PySem.Str) = some (.int 24)
  c_MOST_FILES : P.con.lookup ("MOST_FILES" : PySem.Str) = some (.int 6)
  is_number : P.fns.lookup ("is_number" : PySem.Str) = some fd_is_number
  is_text : P.fns.lookup ("is_text" : PySem.Str) = some fd_is_text
  is_name : P.fns.lookup ("is_name" : PySem.Str) = some fd_is_name
  is_pair : P.fns.lookup ("is_pair" : PySem.Str) = some fd_is_pair
  ascending : P.fns.lookup ("ascending" : PySem.Str) = some fd_ascending
  is_names : P.fns.lookup ("is_names" : PySem.Str) = some fd_is_names
  is_service : P.fns.lookup ("is_service" : PySem.Str) = some fd_is_service
  kinds : P.fns.lookup ("kinds" : PySem.Str) = some fd_kinds
  is_worded : P.fns.lookup ("is_worded" : PySem.Str) = some fd_is_worded
  is_deed : P.fns.lookup ("is_deed" : PySem.Str) = some fd_is_deed
  is_condition : P.fns.lookup ("is_condition" : PySem.Str) = some fd_is_condition
  is_step : P.fns.lookup ("is_step" : PySem.Str) = some fd_is_step
  keeps_order : P.fns.lookup ("keeps_order" : PySem.Str) = some fd_keeps_order
  files_in : P.fns.lookup ("files_in" : PySem.Str) = some fd_files_in
  texts_in : P.fns.lookup ("texts_in" : PySem.Str) = some fd_texts_in
  is_playbook : P.fns.lookup ("is_playbook" : PySem.Str) = some fd_is_playbook
class LibG (P : MP.Prog) : Prop where
  _law_source : P.fns.lookup ("_law_source" : PySem.Str) = some fd__law_source
  _law_draw : P.fns.lookup ("_law_draw" : PySem.Str) = some fd__law_draw
  _law_of : P.fns.lookup ("_law_of" : PySem.Str) = some fd__law_of
  _law_names : P.fns.lookup ("_law_names" : PySem.Str) = some fd__law_names
  _law_texts : P.fns.lookup ("_law_texts" : PySem.Str) = some fd__law_texts
  _law_world : P.fns.lookup ("_law_world" : PySem.Str) = some fd__law_world
  _law_deed : P.fns.lookup ("_law_deed" : PySem.Str) = some fd__law_deed
  _law_fact : P.fns.lookup ("_law_fact" : PySem.Str) = some fd__law_fact
  _law_step : P.fns.lookup ("_law_step" : PySem.Str) = some fd__law_step
  _law_playbook : P.fns.lookup ("_law_playbook" : PySem.Str) = some fd__law_playbook
end Hd
set_option Elab.async false
set_option linter.all false
set_option maxRecDepth 100000
set_option maxHeartbeats 4000000
namespace Hd
open PySem PySem.Spec L2 MP
def b_law_0 : Ss :=
  (.cons (.ife (.and_ (.cmp .isin (.idx (.idx (.var 2) (.cst (.int 0))) (.cst (.int 0))) (.tup (.cons (.cst (.str "put")) (.cons (.cst (.str "drop")) (.cons (.cst (.str "copy")) .nil))))) (.and_ (.cmp .isin (.idx (.idx (.var 2) (.cst (.int 0))) (.cst (.int 1))) (.var 12)) (.cmp .notin (.var 11) (.idx (.var 2) (.cst (.int 2))))))
  (.cons (.expr (.bm .append (.var 8) (.cons (.tup (.cons (.var 10) (.cons (.var 11) .nil))) .nil)))
  .nil)
  .nil)
  .nil)
def b_law_1 : Ss :=
  (.cons (.forS (.tup (.cons (.name 11) (.cons (.name 12) .nil))) .one (.cons (.idx (.var 7) (.cst (.int 0))) .nil) b_law_0)
  .nil)
def b_law_2 : Ss :=
  (.cons (.asg (.t (.name 6)) (.call "_law_world" (.cons (.var 4) (.cons (.bin .add (.cst (.int 1)) (.call "_law_draw" (.cons (.var 4) (.cons (.cst (.int 4)) .nil)))) (.cons (.cst (.int 3)) (.cons (.call "_law_draw" (.cons (.var 4) (.cons (.cst (.int 4)) .nil))) .nil))))))
  (.cons (.asg (.t (.name 7)) (.call "_law_playbook" (.cons (.var 4) (.cons (.var 6) (.cons (.cst (.int 6)) (.cons (.cmp .eq (.var 5) (.cst (.int 0))) .nil))))))
  (.cons (.ife (.or_ (.cmp .ne (.call "files_of" (.cons (.var 7) .nil)) (.call "_law_files" (.cons (.lst (.cons (.var 7) .nil)) .nil))) (.cmp .ne (.call "texts_of" (.cons (.var 7) .nil)) (.call "_law_known" (.cons (.lst (.cons (.var 7) .nil)) .nil))))
  (.cons (.ret (.cst (.bl false)))
  .nil)
  .nil)
  (.cons (.asg (.t (.name 8)) (.mlst .nil))
  (.cons (.forS (.tup (.cons (.name 10) (.cons (.name 2) .nil))) .enum (.cons (.idx (.var 7) (.cst (.int 1))) .nil) b_law_1)
  (.cons (.asg (.t (.name 9)) (.call "unnotified" (.cons (.var 7) .nil)))
  (.cons (.ife (.or_ (.cmp .ne (.var 9) (.srt false (.var 8))) (.not_ (.isi (.var 9) .lst)))
  (.cons (.ret (.cst (.bl false)))
  .nil)
  .nil)
  (.cons (.ife (.and_ (.cmp .eq (.var 5) (.cst (.int 0))) (.cmp .ne (.var 9) (.lst .nil)))
  (.cons (.ret (.cst (.bl false)))
  .nil)
  .nil)
  (.cons (.expr (.bm .append (.var 9) (.cons (.cst .non) .nil)))
  (.cons (.ife (.cmp .ne (.call "unnotified" (.cons (.var 7) .nil)) (.srt false (.var 8)))
  (.cons (.ret (.cst (.bl false)))
  .nil)
  .nil)
  .nil))))))))))
def b_law_3 : Ss :=
  (.cons (.asg (.t (.name 4)) (.call "_law_source" (.cons (.var 0) (.cons (.var 1) .nil))))
  (.cons (.forS (.name 5) .range (.cons (.cst (.int 4)) .nil) b_law_2)
  .nil))
def b_law : Ss :=
  (.cons (.forS (.name 1) .range (.cons (.bin .add (.cst (.int 1)) (.b2 .min2 (.b1 .len (.var 0)) (.cst (.int 15)))) .nil) b_law_3)
  (.cons (.asg (.t (.name 2)) (.tup (.cons (.tup (.cons (.cst (.str "copy")) (.cons (.cst (.str "a")) (.cons (.cst (.str "b")) .nil)))) (.cons (.tup (.cons (.tup (.cons (.cst (.bl false)) (.cons (.tup (.cons (.cst (.str "as")) (.cons (.cst (.str "c")) (.cons (.cst (.str "d")) .nil)))) .nil))) .nil)) (.cons (.tup .nil) .nil)))))
  (.cons (.asg (.t (.name 3)) (.tup (.cons (.tup (.cons (.tup (.cons (.cst (.str "web")) (.cons (.tup (.cons (.cst (.str "b")) (.cons (.cst (.str "e")) .nil))) .nil))) .nil)) (.cons (.tup (.cons (.var 2) (.cons (.tup (.cons (.tup (.cons (.cst (.str "put")) (.cons (.cst (.str "e")) (.cons (.cst (.str "x")) .nil)))) (.cons (.tup (.cons (.tup (.cons (.cst (.bl true)) (.cons (.tup (.cons (.cst (.str "is")) (.cons (.cst (.str "f")) (.cons (.cst (.str "")) .nil)))) .nil))) .nil)) (.cons (.tup .nil) .nil)))) .nil))) .nil))))
  (.cons (.ife (.or_ (.cmp .ne (.call "files_of" (.cons (.var 3) .nil)) (.lst (.cons (.cst (.str "a")) (.cons (.cst (.str "b")) (.cons (.cst (.str "c")) (.cons (.cst (.str "d")) (.cons (.cst (.str "e")) (.cons (.cst (.str "f")) .nil)))))))) (.cmp .ne (.call "texts_of" (.cons (.var 3) .nil)) (.lst (.cons (.cst (.str "")) (.cons (.cst (.str "x")) .nil)))))
  (.cons (.ret (.cst (.bl false)))
  .nil)
  .nil)
  (.cons (.ret (.cmp .eq (.call "unnotified" (.cons (.var 3) .nil)) (.lst (.cons (.tup (.cons (.cst (.int 1)) (.cons (.cst (.str "web")) .nil))) .nil))))
  .nil)))))
def fd_law : Fd := ⟨1, 13, b_law⟩
def nm_law : List PySem.Str := ["script", "k", "step", "one", "source", "turn", "world", "playbook", "due", "found", "at", "name", "reads"]
def P : MP.Prog := ⟨([("is_number", fd_is_number), ("is_text", fd_is_text), ("is_name", fd_is_name), ("is_pair", fd_is_pair), ("ascending", fd_ascending), ("is_names", fd_is_names), ("is_service", fd_is_service), ("kinds", fd_kinds), ("is_worded", fd_is_worded), ("is_deed", fd_is_deed)] : List (PySem.Str × Fd)) ++ ([("is_condition", fd_is_condition), ("is_step", fd_is_step), ("keeps_order", fd_keeps_order), ("files_in", fd_files_in), ("texts_in", fd_texts_in), ("is_playbook", fd_is_playbook), ("need_playbook", fd_need_playbook), ("files_of", fd_files_of), ("texts_of", fd_texts_of), ("unnotified", fd_unnotified)] : List (PySem.Str × Fd)) ++ ([("_law_source", fd__law_source), ("_law_draw", fd__law_draw), ("_law_of", fd__law_of), ("_law_names", fd__law_names), ("_law_texts", fd__law_texts), ("_law_world", fd__law_world), ("_law_deed", fd__law_deed), ("_law_fact", fd__law_fact), ("_law_step", fd__law_step), ("_law_playbook", fd__law_playbook)] : List (PySem.Str × Fd)) ++ ([("_law_files", fd__law_files), ("_law_known", fd__law_known), ("law", fd_law)] : List (PySem.Str × Fd)), [], ([("LETTERS", .str "abcdefghijklmnopqrstuvwxyz"), ("MOST_FILES", .int 6), ("MOST_STEPS", .int 24)] : List (PySem.Str × W)), 1000⟩
end Hd
set_option Elab.async false
set_option linter.all false
set_option maxRecDepth 100000
/-! Kne: words differ. -/
namespace Hd
open PySem
@[simp] theorem ne_text_index : (("text" : PySem.Str) = "index") = False := eq_false (by decide +kernel)
@[simp] theorem ne_text_service : (("text" : PySem.Str) = "service") = False := eq_false (by decide +kernel)
@[simp] theorem ne_text_file : (("text" : PySem.Str) = "file") = False := eq_false (by decide +kernel)
@[simp] theorem ne_text_put : (("text" : PySem.Str) = "put") = False := eq_false (by decide +kernel)
@[simp] theorem ne_text_drop : (("text" : PySem.Str) = "drop") = False := eq_false (by decide +kernel)
@[simp] theorem ne_text_copy : (("text" : PySem.Str) = "copy") = False := eq_false (by decide +kernel)
@[simp] theorem ne_text_restart : (("text" : PySem.Str) = "restart") = False := eq_false (by decide +kernel)
@[simp] theorem ne_text_flush : (("text" : PySem.Str) = "flush") = False := eq_false (by decide +kernel)
@[simp] theorem ne_text_there : (("text" : PySem.Str) = "there") = False := eq_false (by decide +kernel)
@[simp] theorem ne_text_is : (("text" : PySem.Str) = "is") = False := eq_false (by decide +kernel)
@[simp] theorem ne_text_as : (("text" : PySem.Str) = "as") = False := eq_false (by decide +kernel)
@[simp] theorem ne_text_changed : (("text" : PySem.Str) = "changed") = False := eq_false (by decide +kernel)
@[simp] theorem ne_text_files : (("text" : PySem.Str) = "files") = False := eq_false (by decide +kernel)
@[simp] theorem ne_text_texts : (("text" : PySem.Str) = "texts") = False := eq_false (by decide +kernel)
@[simp] theorem ne_text_services : (("text" : PySem.Str) = "services") = False := eq_false (by decide +kernel)
@[simp] theorem ne_index_text : (("index" : PySem.Str) = "text") = False := eq_false (by decide +kernel)
@[simp] theorem ne_index_service : (("index" : PySem.Str) = "service") = False := eq_false (by decide +kernel)
@[simp] theorem ne_index_file : (("index" : PySem.Str) = "file") = False := eq_false (by decide +kernel)
@[simp] theorem ne_index_put : (("index" : PySem.Str) = "put") = False := eq_false (by decide +kernel)
@[simp] theorem ne_index_drop : (("index" : PySem.Str) = "drop") = False := eq_false (by decide +kernel)
@[simp] theorem ne_index_copy : (("index" : PySem.Str) = "copy") = False := eq_false (by decide +kernel)
@[simp] theorem ne_index_restart : (("index" : PySem.Str) = "restart") = False := eq_false (by decide +kernel)
@[simp] theorem ne_index_flush : (("index" : PySem.Str) = "flush") = False := eq_false (by decide +kernel)
@[simp] theorem ne_index_there : (("index" : PySem.Str) = "there") = False := eq_false (by decide +kernel)
@[simp] theorem ne_index_is : (("index" : PySem.Str) = "is") = False := eq_false (by decide +kernel)
@[simp] theorem ne_index_as : (("index" : PySem.Str) = "as") = False := eq_false (by decide +kernel)
@[simp] theorem ne_index_changed : (("index" : PySem.Str) = "changed") = False := eq_false (by decide +kernel)
@[simp] theorem ne_index_files : (("index" : PySem.Str) = "files") = False := eq_false (by decide +kernel)
@[simp] theorem ne_index_texts : (("index" : PySem.Str) = "texts") = False := eq_false (by decide +kernel)
@[simp] theorem ne_index_services : (("index" : PySem.Str) = "services") = False := eq_false (by decide +kernel)
@[simp] theorem ne_service_text : (("service" : PySem.Str) = "text") = False := eq_false (by decide +kernel)
@[simp] theorem ne_service_index : (("service" : PySem.Str) = "index") = False := eq_false (by decide +kernel)
@[simp] theorem ne_service_file : (("service" : PySem.Str) = "file") = False := eq_false (by decide +kernel)
@[simp] theorem ne_service_put : (("service" : PySem.Str) = "put") = False := eq_false (by decide +kernel)
@[simp] theorem ne_service_drop : (("service" : PySem.Str) = "drop") = False := eq_false (by decide +kernel)
@[simp] theorem ne_service_copy : (("service" : PySem.Str) = "copy") = False := eq_false (by decide +kernel)
@[simp] theorem ne_service_restart : (("service" : PySem.Str) = "restart") = False := eq_false (by decide +kernel)
@[simp] theorem ne_service_flush : (("service" : PySem.Str) = "flush") = False := eq_false (by decide +kernel)
@[simp] theorem ne_service_there : (("service" : PySem.Str) = "there") = False := eq_false (by decide +kernel)
@[simp] theorem ne_service_is : (("service" : PySem.Str) = "is") = False := eq_false (by decide +kernel)
@[simp] theorem ne_service_as : (("service" : PySem.Str) = "as") = False := eq_false (by decide +kernel)
@[simp] theorem ne_service_changed : (("service" : PySem.Str) = "changed") = False := eq_false (by decide +kernel)
@[simp] theorem ne_service_files : (("service" : PySem.Str) = "files") = False := eq_false (by decide +kernel)
@[simp] theorem ne_service_texts : (("service" : PySem.Str) = "texts") = False := eq_false (by decide +kernel)
@[simp] theorem ne_service_services : (("service" : PySem.Str) = "services") = False := eq_false (by decide +kernel)
@[simp] theorem ne_file_text : (("file" : PySem.Str) = "text") = False := eq_false (by decide +kernel)
@[simp] theorem ne_file_index : (("file" : PySem.Str) = "index") = False := eq_false (by decide +kernel)
@[simp] theorem ne_file_service : (("file" : PySem.Str) = "service") = False := eq_false (by decide +kernel)
@[simp] theorem ne_file_put : (("file" : PySem.Str) = "put") = False := eq_false (by decide +kernel)
@[simp] theorem ne_file_drop : (("file" : PySem.Str) = "drop") = False := eq_false (by decide +kernel)
@[simp] theorem ne_file_copy : (("file" : PySem.Str) = "copy") = False := eq_false (by decide +kernel)
@[simp] theorem ne_file_restart : (("file" : PySem.Str) = "restart") = False := eq_false (by decide +kernel)
@[simp] theorem ne_file_flush : (("file" : PySem.Str) = "flush") = False := eq_false (by decide +kernel)
@[simp] theorem ne_file_there : (("file" : PySem.Str) = "there") = False := eq_false (by decide +kernel)
@[simp] theorem ne_file_is : (("file" : PySem.Str) = "is") = False := eq_false (by decide +kernel)
@[simp] theorem ne_file_as : (("file" : PySem.Str) = "as") = False := eq_false (by decide +kernel)
@[simp] theorem ne_file_changed : (("file" : PySem.Str) = "changed") = False := eq_false (by decide +kernel)
@[simp] theorem ne_file_files : (("file" : PySem.Str) = "files") = False := eq_false (by decide +kernel)
@[simp] theorem ne_file_texts : (("file" : PySem.Str) = "texts") = False := eq_false (by decide +kernel)
@[simp] theorem ne_file_services : (("file" : PySem.Str) = "services") = False := eq_false (by decide +kernel)
@[simp] theorem ne_put_text : (("put" : PySem.Str) = "text") = False := eq_false (by decide +kernel)
@[simp] theorem ne_put_index : (("put" : PySem.Str) = "index") = False := eq_false (by decide +kernel)
@[simp] theorem ne_put_service : (("put" : PySem.Str) = "service") = False := eq_false (by decide +kernel)
@[simp] theorem ne_put_file : (("put" : PySem.Str) = "file") = False := eq_false (by decide +kernel)
@[simp] theorem ne_put_drop : (("put" : PySem.Str) = "drop") = False := eq_false (by decide +kernel)
@[simp] theorem ne_put_copy : (("put" : PySem.Str) = "copy") = False := eq_false (by decide +kernel)
@[simp] theorem ne_put_restart : (("put" : PySem.Str) = "restart") = False := eq_false (by decide +kernel)
@[simp] theorem ne_put_flush : (("put" : PySem.Str) = "flush") = False := eq_false (by decide +kernel)
@[simp] theorem ne_put_there : (("put" : PySem.Str) = "there") = False := eq_false (by decide +kernel)
@[simp] theorem ne_put_is : (("put" : PySem.Str) = "is") = False := eq_false (by decide +kernel)
@[simp] theorem ne_put_as : (("put" : PySem.Str) = "as") = False := eq_false (by decide +kernel)
@[simp] theorem ne_put_changed : (("put" : PySem.Str) = "changed") = False := eq_false (by decide +kernel)
@[simp] theorem ne_put_files : (("put" : PySem.Str) = "files") = False := eq_false (by decide +kernel)
@[simp] theorem ne_put_texts : (("put" : PySem.Str) = "texts") = False := eq_false (by decide +kernel)
@[simp] theorem ne_put_services : (("put" : PySem.Str) = "services") = False := eq_false (by decide +kernel)
@[simp] theorem ne_drop_text : (("drop" : PySem.Str) = "text") = False := eq_false (by decide +kernel)
@[simp] theorem ne_drop_index : (("drop" : PySem.Str) = "index") = False := eq_false (by decide +kernel)
@[simp] theorem ne_drop_service : (("drop" : PySem.Str) = "service") = False := eq_false (by decide +kernel)
@[simp] theorem ne_drop_file : (("drop" : PySem.Str) = "file") = False := eq_false (by decide +kernel)
@[simp] theorem ne_drop_put : (("drop" : PySem.Str) = "put") = False := eq_false (by decide +kernel)
@[simp] theorem ne_drop_copy : (("drop" : PySem.Str) = "copy") = False := eq_false (by decide +kernel)
@[simp] theorem ne_drop_restart : (("drop" : PySem.Str) = "restart") = False := eq_false (by decide +kernel)
@[simp] theorem ne_drop_flush : (("drop" : PySem.Str) = "flush") = False := eq_false (by decide +kernel)
@[simp] theorem ne_drop_there : (("drop" : PySem.Str) = "there") = False := eq_false (by decide +kernel)
@[simp] theorem ne_drop_is : (("drop" : PySem.Str) = "is") = False := eq_false (by decide +kernel)
@[simp] theorem ne_drop_as : (("drop" : PySem.Str) = "as") = False := eq_false (by decide +kernel)
@[simp] theorem ne_drop_changed : (("drop" : PySem.Str) = "changed") = False := eq_false (by decide +kernel)
@[simp] theorem ne_drop_files : (("drop" : PySem.Str) = "files") = False := eq_false (by decide +kernel)
@[simp] theorem ne_drop_texts : (("drop" : PySem.Str) = "texts") = False := eq_false (by decide +kernel)
@[simp] theorem ne_drop_services : (("drop" : PySem.Str) = "services") = False := eq_false (by decide +kernel)
@[simp] theorem ne_copy_text : (("copy" : PySem.Str) = "text") = False := eq_false (by decide +kernel)
@[simp] theorem ne_copy_index : (("copy" : PySem.Str) = "index") = False := eq_false (by decide +kernel)
@[simp] theorem ne_copy_service : (("copy" : PySem.Str) = "service") = False := eq_false (by decide +kernel)
@[simp] theorem ne_copy_file : (("copy" : PySem.Str) = "file") = False := eq_false (by decide +kernel)
@[simp] theorem ne_copy_put : (("copy" : PySem.Str) = "put") = False := eq_false (by decide +kernel)
@[simp] theorem ne_copy_drop : (("copy" : PySem.Str) = "drop") = False := eq_false (by decide +kernel)
@[simp] theorem ne_copy_restart : (("copy" : PySem.Str) = "restart") = False := eq_false (by decide +kernel)
@[simp] theorem ne_copy_flush : (("copy" : PySem.Str) = "flush") = False := eq_false (by decide +kernel)
@[simp] theorem ne_copy_there : (("copy" : PySem.Str) = "there") = False := eq_false (by decide +kernel)
@[simp] theorem ne_copy_is : (("copy" : PySem.Str) = "is") = False := eq_false (by decide +kernel)
@[simp] theorem ne_copy_as : (("copy" : PySem.Str) = "as") = False := eq_false (by decide +kernel)
@[simp] theorem ne_copy_changed : (("copy" : PySem.Str) = "changed") = False := eq_false (by decide +kernel)
@[simp] theorem ne_copy_files : (("copy" : PySem.Str) = "files") = False := eq_false (by decide +kernel)
@[simp] theorem ne_copy_texts : (("copy" : PySem.Str) = "texts") = False := eq_false (by decide +kernel)
@[simp] theorem ne_copy_services : (("copy" : PySem.Str) = "services") = False := eq_false (by decide +kernel)
@[simp] theorem ne_restart_text : (("restart" : PySem.Str) = "text") = False := eq_false (by decide +kernel)
@[simp] theorem ne_restart_index : (("restart" : PySem.Str) = "index") = False := eq_false (by decide +kernel)
@[simp] theorem ne_restart_service : (("restart" : PySem.Str) = "service") = False := eq_false (by decide +kernel)
@[simp] theorem ne_restart_file : (("restart" : PySem.Str) = "file") = False := eq_false (by decide +kernel)
@[simp] theorem ne_restart_put : (("restart" : PySem.Str) = "put") = False := eq_false (by decide +kernel)
@[simp] theorem ne_restart_drop : (("restart" : PySem.Str) = "drop") = False := eq_false (by decide +kernel)
@[simp] theorem ne_restart_copy : (("restart" : PySem.Str) = "copy") = False := eq_false (by decide +kernel)
@[simp] theorem ne_restart_flush : (("restart" : PySem.Str) = "flush") = False := eq_false (by decide +kernel)
@[simp] theorem ne_restart_there : (("restart" : PySem.Str) = "there") = False := eq_false (by decide +kernel)
@[simp] theorem ne_restart_is : (("restart" : PySem.Str) = "is") = False := eq_false (by decide +kernel)
@[simp] theorem ne_restart_as : (("restart" : PySem.Str) = "as") = False := eq_false (by decide +kernel)
@[simp] theorem ne_restart_changed : (("restart" : PySem.Str) = "changed") = False := eq_false (by decide +kernel)
@[simp] theorem ne_restart_files : (("restart" : PySem.Str) = "files") = False := eq_false (by decide +kernel)
@[simp] theorem ne_restart_texts : (("restart" : PySem.Str) = "texts") = False := eq_false (by decide +kernel)
@[simp] theorem ne_restart_services : (("restart" : PySem.Str) = "services") = False := eq_false (by decide +kernel)
@[simp] theorem ne_flush_text : (("flush" : PySem.Str) = "text") = False := eq_false (by decide +kernel)
@[simp] theorem ne_flush_index : (("flush" : PySem.Str) = "index") = False := eq_false (by decide +kernel)
@[simp] theorem ne_flush_service : (("flush" : PySem.Str) = "service") = False := eq_false (by decide +kernel)
@[simp] theorem ne_flush_file : (("flush" : PySem.Str) = "file") = False := eq_false (by decide +kernel)
@[simp] theorem ne_flush_put : (("flush" : PySem.Str) = "put") = False := eq_false (by decide +kernel)
@[simp] theorem ne_flush_drop : (("flush" : PySem.Str) = "drop") = False := eq_false (by decide +kernel)
@[simp] theorem ne_flush_copy : (("flush" : PySem.Str) = "copy") = False := eq_false (by decide +kernel)
@[simp] theorem ne_flush_restart : (("flush" : PySem.Str) = "restart") = False := eq_false (by decide +kernel)
@[simp] theorem ne_flush_there : (("flush" : PySem.Str) = "there") = False := eq_false (by decide +kernel)
@[simp] theorem ne_flush_is : (("flush" : PySem.Str) = "is") = False := eq_false (by decide +kernel)
@[simp] theorem ne_flush_as : (("flush" : PySem.Str) = "as") = False := eq_false (by decide +kernel)
@[simp] theorem ne_flush_changed : (("flush" : PySem.Str) = "changed") = False := eq_false (by decide +kernel)
@[simp] theorem ne_flush_files : (("flush" : PySem.Str) = "files") = False := eq_false (by decide +kernel)
@[simp] theorem ne_flush_texts : (("flush" : PySem.Str) = "texts") = False := eq_false (by decide +kernel)
@[simp] theorem ne_flush_services : (("flush" : PySem.Str) = "services") = False := eq_false (by decide +kernel)
@[simp] theorem ne_there_text : (("there" : PySem.Str) = "text") = False := eq_false (by decide +kernel)
@[simp] theorem ne_there_index : (("there" : PySem.Str) = "index") = False := eq_false (by decide +kernel)
@[simp] theorem ne_there_service : (("there" : PySem.Str) = "service") = False := eq_false (by decide +kernel)
@[simp] theorem ne_there_file : (("there" : PySem.Str) = "file") = False := eq_false (by decide +kernel)
@[simp] theorem ne_there_put : (("there" : PySem.Str) = "put") = False := eq_false (by decide +kernel)
@[simp] theorem ne_there_drop : (("there" : PySem.Str) = "drop") = False := eq_false (by decide +kernel)
@[simp] theorem ne_there_copy : (("there" : PySem.Str) = "copy") = False := eq_false (by decide +kernel)
@[simp] theorem ne_there_restart : (("there" : PySem.Str) = "restart") = False := eq_false (by decide +kernel)
@[simp] theorem ne_there_flush : (("there" : PySem.Str) = "flush") = False := eq_false (by decide +kernel)
@[simp] theorem ne_there_is : (("there" : PySem.Str) = "is") = False := eq_false (by decide +kernel)
@[simp] theorem ne_there_as : (("there" : PySem.Str) = "as") = False := eq_false (by decide +kernel)
@[simp] theorem ne_there_changed : (("there" : PySem.Str) = "changed") = False := eq_false (by decide +kernel)
@[simp] theorem ne_there_files : (("there" : PySem.Str) = "files") = False := eq_false (by decide +kernel)
@[simp] theorem ne_there_texts : (("there" : PySem.Str) = "texts") = False := eq_false (by decide +kernel)
@[simp] theorem ne_there_services : (("there" : PySem.Str) = "services") = False := eq_false (by decide +kernel)
@[simp] theorem ne_is_text : (("is" : PySem.Str) = "text") = False := eq_false (by decide +kernel)
@[simp] theorem ne_is_index : (("is" : PySem.Str) = "index") = False := eq_false (by decide +kernel)
@[simp] theorem ne_is_service : (("is" : PySem.Str) = "service") = False := eq_false (by decide +kernel)
@[simp] theorem ne_is_file : (("is" : PySem.Str) = "file") = False := eq_false (by decide +kernel)
@[simp] theorem ne_is_put : (("is" : PySem.Str) = "put") = False := eq_false (by decide +kernel)
@[simp] theorem ne_is_drop : (("is" : PySem.Str) = "drop") = False := eq_false (by decide +kernel)
@[simp] theorem ne_is_copy : (("is" : PySem.Str) = "copy") = False := eq_false (by decide +kernel)
@[simp] theorem ne_is_restart : (("is" : PySem.Str) = "restart") = False := eq_false (by decide +kernel)
@[simp] theorem ne_is_flush : (("is" : PySem.Str) = "flush") = False := eq_false (by decide +kernel)
@[simp] theorem ne_is_there : (("is" : PySem.Str) = "there") = False := eq_false (by decide +kernel)
@[simp] theorem ne_is_as : (("is" : PySem.Str) = "as") = False := eq_false (by decide +kernel)
@[simp] theorem ne_is_changed : (("is" : PySem.Str) = "changed") = False := eq_false (by decide +kernel)
@[simp] theorem ne_is_files : (("is" : PySem.Str) = "files") = False := eq_false (by decide +kernel)
@[simp] theorem ne_is_texts : (("is" : PySem.Str) = "texts") = False := eq_false (by decide +kernel)
@[simp] theorem ne_is_services : (("is" : PySem.Str) = "services") = False := eq_false (by decide +kernel)
@[simp] theorem ne_as_text : (("as" : PySem.Str) = "text") = False := eq_false (by decide +kernel)
@[simp] theorem ne_as_index : (("as" : PySem.Str) = "index") = False := eq_false (by decide +kernel)
@[simp] theorem ne_as_service : (("as" : PySem.Str) = "service") = False := eq_false (by decide +kernel)
@[simp] theorem ne_as_file : (("as" : PySem.Str) = "file") = False := eq_false (by decide +kernel)
@[simp] theorem ne_as_put : (("as" : PySem.Str) = "put") = False := eq_false (by decide +kernel)
@[simp] theorem ne_as_drop : (("as" : PySem.Str) = "drop") = False := eq_false (by decide +kernel)
@[simp] theorem ne_as_copy : (("as" : PySem.Str) = "copy") = False := eq_false (by decide +kernel)
@[simp] theorem ne_as_restart : (("as" : PySem.Str) = "restart") = False := eq_false (by decide +kernel)
@[simp] theorem ne_as_flush : (("as" : PySem.Str) = "flush") = False := eq_false (by decide +kernel)
@[simp] theorem ne_as_there : (("as" : PySem.Str) = "there") = False := eq_false (by decide +kernel)
@[simp] theorem ne_as_is : (("as" : PySem.Str) = "is") = False := eq_false (by decide +kernel)
@[simp] theorem ne_as_changed : (("as" : PySem.Str) = "changed") = False := eq_false (by decide +kernel)
@[simp] theorem ne_as_files : (("as" : PySem.Str) = "files") = False := eq_false (by decide +kernel)
@[simp] theorem ne_as_texts : (("as" : PySem.Str) = "texts") = False := eq_false (by decide +kernel)
@[simp] theorem ne_as_services : (("as" : PySem.Str) = "services") = False := eq_false (by decide +kernel)
@[simp] theorem ne_changed_text : (("changed" : PySem.Str) = "text") = False := eq_false (by decide +kernel)
@[simp] theorem ne_changed_index : (("changed" : PySem.Str) = "index") = False := eq_false (by decide +kernel)
@[simp] theorem ne_changed_service : (("changed" : PySem.Str) = "service") = False := eq_false (by decide +kernel)
@[simp] theorem ne_changed_file : (("changed" : PySem.Str) = "file") = False := eq_false (by decide +kernel)
@[simp] theorem ne_changed_put : (("changed" : PySem.Str) = "put") = False := eq_false (by decide +kernel)
@[simp] theorem ne_changed_drop : (("changed" : PySem.Str) = "drop") = False := eq_false (by decide +kernel)
@[simp] theorem ne_changed_copy : (("changed" : PySem.Str) = "copy") = False := eq_false (by decide +kernel)
@[simp] theorem ne_changed_restart : (("changed" : PySem.Str) = "restart") = False := eq_false (by decide +kernel)
@[simp] theorem ne_changed_flush : (("changed" : PySem.Str) = "flush") = False := eq_false (by decide +kernel)
@[simp] theorem ne_changed_there : (("changed" : PySem.Str) = "there") = False := eq_false (by decide +kernel)
@[simp] theorem ne_changed_is : (("changed" : PySem.Str) = "is") = False := eq_false (by decide +kernel)
@[simp] theorem ne_changed_as : (("changed" : PySem.Str) = "as") = False := eq_false (by decide +kernel)
@[simp] theorem ne_changed_files : (("changed" : PySem.Str) = "files") = False := eq_false (by decide +kernel)
@[simp] theorem ne_changed_texts : (("changed" : PySem.Str) = "texts") = False := eq_false (by decide +kernel)
@[simp] theorem ne_changed_services : (("changed" : PySem.Str) = "services") = False := eq_false (by decide +kernel)
@[simp] theorem ne_files_text : (("files" : PySem.Str) = "text") = False := eq_false (by decide +kernel)
@[simp] theorem ne_files_index : (("files" : PySem.Str) = "index") = False := eq_false (by decide +kernel)
@[simp] theorem ne_files_service : (("files" : PySem.Str) = "service") = False := eq_false (by decide +kernel)
@[simp] theorem ne_files_file : (("files" : PySem.Str) = "file") = False := eq_false (by decide +kernel)
@[simp] theorem ne_files_put : (("files" : PySem.Str) = "put") = False := eq_false (by decide +kernel)
@[simp] theorem ne_files_drop : (("files" : PySem.Str) = "drop") = False := eq_false (by decide +kernel)
@[simp] theorem ne_files_copy : (("files" : PySem.Str) = "copy") = False := eq_false (by decide +kernel)
@[simp] theorem ne_files_restart : (("files" : PySem.Str) = "restart") = False := eq_false (by decide +kernel)
@[simp] theorem ne_files_flush : (("files" : PySem.Str) = "flush") = False := eq_false (by decide +kernel)
@[simp] theorem ne_files_there : (("files" : PySem.Str) = "there") = False := eq_false (by decide +kernel)
@[simp] theorem ne_files_is : (("files" : PySem.Str) = "is") = False := eq_false (by decide +kernel)
@[simp] theorem ne_files_as : (("files" : PySem.Str) = "as") = False := eq_false (by decide +kernel)
@[simp] theorem ne_files_changed : (("files" : PySem.Str) = "changed") = False := eq_false (by decide +kernel)
@[simp] theorem ne_files_texts : (("files" : PySem.Str) = "texts") = False := eq_false (by decide +kernel)
@[simp] theorem ne_files_services : (("files" : PySem.Str) = "services") = False := eq_false (by decide +kernel)
@[simp] theorem ne_texts_text : (("texts" : PySem.Str) = "text") = False := eq_false (by decide +kernel)
@[simp] theorem ne_texts_index : (("texts" : PySem.Str) = "index") = False := eq_false (by decide +kernel)
@[simp] theorem ne_texts_service : (("texts" : PySem.Str) = "service") = False := eq_false (by decide +kernel)
@[simp] theorem ne_texts_file : (("texts" : PySem.Str) = "file") = False := eq_false (by decide +kernel)
@[simp] theorem ne_texts_put : (("texts" : PySem.Str) = "put") = False := eq_false (by decide +kernel)
@[simp] theorem ne_texts_drop : (("texts" : PySem.Str) = "drop") = False := eq_false (by decide +kernel)
@[simp] theorem ne_texts_copy : (("texts" : PySem.Str) = "copy") = False := eq_false (by decide +kernel)
@[simp] theorem ne_texts_restart : (("texts" : PySem.Str) = "restart") = False := eq_false (by decide +kernel)
@[simp] theorem ne_texts_flush : (("texts" : PySem.Str) = "flush") = False := eq_false (by decide +kernel)
@[simp] theorem ne_texts_there : (("texts" : PySem.Str) = "there") = False := eq_false (by decide +kernel)
@[simp] theorem ne_texts_is : (("texts" : PySem.Str) = "is") = False := eq_false (by decide +kernel)
@[simp] theorem ne_texts_as : (("texts" : PySem.Str) = "as") = False := eq_false (by decide +kernel)
@[simp] theorem ne_texts_changed : (("texts" : PySem.Str) = "changed") = False := eq_false (by decide +kernel)
@[simp] theorem ne_texts_files : (("texts" : PySem.Str) = "files") = False := eq_false (by decide +kernel)
@[simp] theorem ne_texts_services : (("texts" : PySem.Str) = "services") = False := eq_false (by decide +kernel)
@[simp] theorem ne_services_text : (("services" : PySem.Str) = "text") = False := eq_false (by decide +kernel)
@[simp] theorem ne_services_index : (("services" : PySem.Str) = "index") = False := eq_false (by decide +kernel)
@[simp] theorem ne_services_service : (("services" : PySem.Str) = "service") = False := eq_false (by decide +kernel)
@[simp] theorem ne_services_file : (("services" : PySem.Str) = "file") = False := eq_false (by decide +kernel)
@[simp] theorem ne_services_put : (("services" : PySem.Str) = "put") = False := eq_false (by decide +kernel)
@[simp] theorem ne_services_drop : (("services" : PySem.Str) = "drop") = False := eq_false (by decide +kernel)
@[simp] theorem ne_services_copy : (("services" : PySem.Str) = "copy") = False := eq_false (by decide +kernel)
@[simp] theorem ne_services_restart : (("services" : PySem.Str) = "restart") = False := eq_false (by decide +kernel)
@[simp] theorem ne_services_flush : (("services" : PySem.Str) = "flush") = False := eq_false (by decide +kernel)
@[simp] theorem ne_services_there : (("services" : PySem.Str) = "there") = False := eq_false (by decide +kernel)
@[simp] theorem ne_services_is : (("services" : PySem.Str) = "is") = False := eq_false (by decide +kernel)
@[simp] theorem ne_services_as : (("services" : PySem.Str) = "as") = False := eq_false (by decide +kernel)
@[simp] theorem ne_services_changed : (("services" : PySem.Str) = "changed") = False := eq_false (by decide +kernel)
@[simp] theorem ne_services_files : (("services" : PySem.Str) = "files") = False := eq_false (by decide +kernel)
@[simp] theorem ne_services_texts : (("services" : PySem.Str) = "texts") = False := eq_false (by decide +kernel)
@[simp] theorem ok_text : PyData.strOk "text" = true := by decide +kernel
@[simp] theorem ok_index : PyData.strOk "index" = true := by decide +kernel
@[simp] theorem ok_service : PyData.strOk "service" = true := by decide +kernel
@[simp] theorem ok_file : PyData.strOk "file" = true := by decide +kernel
@[simp] theorem ok_put : PyData.strOk "put" = true := by decide +kernel
@[simp] theorem ok_drop : PyData.strOk "drop" = true := by decide +kernel
@[simp] theorem ok_copy : PyData.strOk "copy" = true := by decide +kernel
@[simp] theorem ok_restart : PyData.strOk "restart" = true := by decide +kernel
@[simp] theorem ok_flush : PyData.strOk "flush" = true := by decide +kernel
@[simp] theorem ok_there : PyData.strOk "there" = true := by decide +kernel
@[simp] theorem ok_is : PyData.strOk "is" = true := by decide +kernel
@[simp] theorem ok_as : PyData.strOk "as" = true := by decide +kernel
@[simp] theorem ok_changed : PyData.strOk "changed" = true := by decide +kernel
@[simp] theorem ok_files : PyData.strOk "files" = true := by decide +kernel
@[simp] theorem ok_texts : PyData.strOk "texts" = true := by decide +kernel
@[simp] theorem ok_services : PyData.strOk "services" = true := by decide +kernel
end Hd
set_option Elab.async false
set_option linter.all false
set_option maxRecDepth 100000
set_option maxHeartbeats 4000000
namespace Hd
open PySem PySem.Spec L2 MP
variable {P : MP.Prog} [LibA P]
theorem C_letters (n : Nat) : (gam P n).con "LETTERS" = some (.str "abcdefghijklmnopqrstuvwxyz") := by cases n <;> exact LibA.c_LETTERS
theorem C_steps (n : Nat) : (gam P n).con "MOST_STEPS" = some (.int 24) := by cases n <;> exact LibA.c_MOST_STEPS
theorem C_files (n : Nat) : (gam P n).con "MOST_FILES" = some (.int 6) := by cases n <;> exact LibA.c_MOST_FILES
def LET : PySem.Str := "abcdefghijklmnopqrstuvwxyz"
def okSign (c : Nat) : Bool := !(Builtin.Str.occurrences LET ⟨#[c]⟩ 0 LET.length 1).isEmpty
def okText (s : PySem.Str) : Bool := decide (s.length ≤ 12) && s.cps.toList.all okSign
theorem ev_is_number {n : Nat} (hn : 1 ≤ n) {i a b : Int} {h : Hq} : (gam P n).fn "is_number" [.int i, .int a, .int b] h = .ok (.bl (decide (a ≤ i) && decide (i ≤ b))) h := by
  refine pure_call hn LibA.is_number (by rfl) ?_ rfl
  simp [fd_is_number, b_is_number, typW, isiB, cmpW]
  cases decide (a ≤ i) <;> simp
theorem ev_is_text {n : Nat} (hn : 1 ≤ n) {z : PySem.Str} {h : Hq} (hz : z.length ≤ 1000) : (gam P n).fn "is_text" [.str z] h = .ok (.bl (okText z)) h := by
  refine pure_call hn LibA.is_text (by rfl) ?_ rfl
  have hl : z.length ≤ line := by unfold line; omega
  have e := lc_enc (f := lcF (gam P (n - 1)) (.name 1) [1] .no (.cmp .isin (.var 1) (.glb "LETTERS")) [some (.str z), none]) (enc := fun c => W.str ⟨#[c]⟩) (g := fun c => W.bl (okSign c)) (h := h) (l := z.cps.toList) (fun c hc => by
      simp [lcF, wipeS, C_letters, cmpW, LET, okSign]) (by simp; exact hl)
  simp [fd_is_text, b_is_text, typW, isiB, cmpW, b1W, hl, itemsW, srcW, e]
  unfold okText
  cases e1 : decide (z.length ≤ 12) with
  | true => have : decide ((z.length : Int) ≤ 12) = true := by have := of_decide_eq_true e1; simp; omega
            simp [this]
  | false => have : decide ((z.length : Int) ≤ 12) = false := by have := of_decide_eq_false e1; simp; omega
             simp [this]
theorem ev_is_text_int {n : Nat} (hn : 1 ≤ n) {i : Int} {h : Hq} : (gam P n).fn "is_text" [.int i] h = .ok (.bl false) h := by
  refine pure_call hn LibA.is_text (by rfl) ?_ rfl
  simp [fd_is_text, b_is_text, typW, isiB]
def okName (s : PySem.Str) : Bool := okText s && (decide (1 ≤ s.length) && decide (s.length ≤ 8))
theorem ev_is_name {n : Nat} (hn : 2 ≤ n) {z : PySem.Str} {h : Hq} (hz : z.length ≤ 1000) : (gam P n).fn "is_name" [.str z] h = .ok (.bl (okName z)) h := by
  refine pure_call (by omega) LibA.is_name (by rfl) ?_ rfl
  have hl : z.length ≤ line := by unfold line; omega
  have e1 := ev_is_text (P := P) (n := n - 1) (by omega) (h := h) hz
  simp [fd_is_name, b_is_name, e1, b1W, hl, cmpW]
  unfold okName
  cases okText z with
  | false => simp
  | true =>
    cases e2 : decide (1 ≤ z.length) with
    | true => have : decide ((1 : Int) ≤ z.length) = true := by have := of_decide_eq_true e2; simp; omega
              simp [this]
              omega
    | false => have : decide ((1 : Int) ≤ z.length) = false := by have := of_decide_eq_false e2; simp; omega
               simp [this]
theorem ev_is_name_int {n : Nat} (hn : 2 ≤ n) {i : Int} {h : Hq} : (gam P n).fn "is_name" [.int i] h = .ok (.bl false) h := by
  refine pure_call (by omega) LibA.is_name (by rfl) ?_ rfl
  have e1 := ev_is_text_int (P := P) (n := n - 1) (by omega) (i := i) (h := h)
  simp [fd_is_name, b_is_name, e1]
theorem ev_is_pair {n : Nat} (hn : 1 ≤ n) {a b : W} {h : Hq} : (gam P n).fn "is_pair" [.tup [a, b]] h = .ok (.bl true) h := by
  refine pure_call hn LibA.is_pair (by rfl) ?_ rfl
  simp [fd_is_pair, b_is_pair, typW, isiB, b1W, seqOf, cmpW, W.shp, SeqAt.shaped, W.d, PyData.canLay0, PyData.depth, PyData.eqv]
end Hd
set_option Elab.async false
set_option linter.all false
set_option maxRecDepth 100000
set_option maxHeartbeats 4000000
namespace Hd
open PySem PySem.Spec L2 MP
variable {P : MP.Prog} [LibA P]
def line_le {n : Nat} (h : n ≤ 1000) : n ≤ MP.line := by unfold MP.line; omega
/-! ### small facts of data -/
theorem ds_strs (l : List PySem.Str) : W.ds (l.map W.str) = l.map PyData.str := by rw [W.ds_eq, List.map_map]; rfl
theorem lay_strs {l : List PySem.Str} (h : ∀ s ∈ l, PyData.strOk s = true) : PyData.canLayAll0 (l.map PyData.str) = true := by
  induction l with
  | nil => rfl
  | cons a l ih =>
    rw [List.map_cons]
    simp only [PyData.canLayAll0, PyData.canLay0, h a (by simp), ih fun s hs => h s (by simp [hs]), Bool.and_self]
theorem dep_strs (l : List PySem.Str) : PyData.depthAll (l.map PyData.str) ≤ 1 := by
  induction l with
  | nil => simp [PyData.depthAll]
  | cons a l ih => simp only [List.map_cons, PyData.depthAll, PyData.depth]; omega
theorem shp_strs {l : List PySem.Str} (h : ∀ s ∈ l, PyData.strOk s = true) : (W.lst (l.map W.str)).shp = true := by
  unfold W.shp SeqAt.shaped
  simp only [W.d, ds_strs, PyData.canLay0, lay_strs h, PyData.depth, Bool.true_and]
  have := dep_strs l
  exact decide_eq_true (by omega)
theorem shp_tstrs {l : List PySem.Str} (h : ∀ s ∈ l, PyData.strOk s = true) : (W.tup (l.map W.str)).shp = true := by
  unfold W.shp SeqAt.shaped
  simp only [W.d, ds_strs, PyData.canLay0, lay_strs h, PyData.depth, Bool.true_and]
  have := dep_strs l
  exact decide_eq_true (by omega)
theorem shp_str {s : PySem.Str} (h : PyData.strOk s = true) : (W.str s).shp = true := by
  unfold W.shp SeqAt.shaped
  simp only [W.d, PyData.canLay0, h, PyData.depth]
  rfl
theorem eqv_str (a b : PySem.Str) : PyData.eqv (.str a) (.str b) = decide (a = b) := by
  simp only [PyData.eqv]
  rw [Bool.beq_eq_decide_eq]
theorem inD_strs (s : PySem.Str) (l : List PySem.Str) : inD (.str s) (l.map W.str) = decide (s ∈ l) := by
  unfold inD
  induction l with
  | nil => simp
  | cons a l ih =>
    rw [List.map_cons, List.any_cons, ih]
    simp only [W.d, eqv_str]
    by_cases e : a = s
    · simp [e]
    · simp [e, Ne.symm e]
theorem flat_strs (l : List PySem.Str) : (l.map W.str).all flatW = true := by
  induction l with
  | nil => rfl
  | cons a l ih => simp [flatW]
theorem cut1 (ws : List W) : cutW ws (some 1) none = ws.tail := by
  unfold cutW
  have e1 : HT.sIx ws.length 0 (some 1) = min 1 ws.length := HT.sIx_nat ws.length 0 1
  rw [e1, HT.sIx_none]
  cases ws with
  | nil => rfl
  | cons a ws => simp
/-! ### ascending, is_names, is_service -/
def ascB (l : List PySem.Str) : Bool := (l.zip l.tail).all fun p => strLt p.1 p.2
theorem zip_strs (l m : List PySem.Str) : ((l.map W.str).zip (m.map W.str)).map (fun p => W.tup [p.1, p.2]) = (l.zip m).map fun p => W.tup [.str p.1, .str p.2] := by
  rw [List.zip_map, List.map_map]
  rfl
theorem ev_ascending {n : Nat} (hn : 1 ≤ n) {l : List PySem.Str} {h : Hq} (hl : l.length ≤ 1000) : (gam P n).fn "ascending" [.tup (l.map W.str)] h = .ok (.bl (ascB l)) h := by
  refine pure_call hn LibA.ascending (by rfl) ?_ rfl
  have e := lc_enc (f := lcF (gam P (n - 1)) (.tup (.cons (.name 1) (.cons (.name 2) .nil))) [1, 2] .no (.cmp .lt (.var 1) (.var 2)) [some (.tup (l.map W.str)), none, none]) (enc := fun p : PySem.Str × PySem.Str => W.tup [.str p.1, .str p.2]) (g := fun p => W.bl (strLt p.1 p.2)) (h := h) (l := l.zip l.tail) (fun p hp => by
      simp [lcF, wipeS, cmpW]) (by rw [List.length_zip, List.length_tail]; exact line_le (by omega))
  simp [fd_ascending, b_ascending, slcW, cut1, itemsW, srcW, zip_strs, ← List.map_tail, e, b1W, ascB]
def namesB (m : Nat) (l : List PySem.Str) : Bool := decide (l.length ≤ m) && (l.all okName && ascB l)
theorem ev_is_names {n : Nat} (hn : 3 ≤ n) {l : List PySem.Str} {m : Nat} {h : Hq} (hl : l.length ≤ 1000) (hs : ∀ s ∈ l, s.length ≤ 1000) : (gam P n).fn "is_names" [.tup (l.map W.str), .int m] h = .ok (.bl (namesB m l)) h := by
  refine pure_call (by omega) LibA.is_names (by rfl) ?_ rfl
  have e := lc_enc (f := lcF (gam P (n - 1)) (.name 2) [2] .no (.call "is_name" (.cons (.var 2) .nil)) [some (.tup (l.map W.str)), some (.int m), none]) (enc := W.str) (g := fun s => W.bl (okName s)) (h := h) (l := l) (fun s hss => by
      simp [lcF, wipeS, ev_is_name (P := P) (n := n - 1) (by omega) (h := h) (hs s hss)]) (line_le hl)
  have e2 := ev_ascending (P := P) (n := n - 1) (by omega) (l := l) (h := h) hl
  simp [fd_is_names, b_is_names, typW, isiB, b1W, seqOf, cmpW, itemsW, srcW, e, e2]
  unfold namesB
  by_cases c1 : l.length ≤ m
  · have : ¬ (m < l.length) := by omega
    simp only [this, decide_false, decide_eq_true c1, Bool.true_and]
    cases l.all okName <;> simp [e2]
  · have : m < l.length := by omega
    simp [this, c1]
def servB (p : PySem.Str × List PySem.Str) : Bool := okName p.1 && namesB 4 p.2
def encS (p : PySem.Str × List PySem.Str) : W := .tup [.str p.1, .tup (p.2.map W.str)]
theorem ev_is_service {n : Nat} (hn : 4 ≤ n) {p : PySem.Str × List PySem.Str} {h : Hq} (h1 : p.1.length ≤ 1000) (hl : p.2.length ≤ 1000) (hs : ∀ s ∈ p.2, s.length ≤ 1000) : (gam P n).fn "is_service" [encS p] h = .ok (.bl (servB p)) h := by
  refine pure_call (by omega) LibA.is_service (by rfl) ?_ rfl
  have e1 := ev_is_pair (P := P) (n := n - 1) (by omega) (a := .str p.1) (b := .tup (p.2.map W.str)) (h := h)
  have e2 := ev_is_name (P := P) (n := n - 1) (by omega) (z := p.1) (h := h) h1
  have e3 := ev_is_names (P := P) (n := n - 1) (by omega) (l := p.2) (m := 4) (h := h) hl hs
  have e3' : (gam P (n - 1)).fn "is_names" [.tup (p.2.map W.str), .int 4] h = .ok (.bl (namesB 4 p.2)) h := e3
  simp [fd_is_service, b_is_service, encS, e1, e2, e3', idxW, atI, ixN]
  unfold servB
  cases okName p.1 <;> simp
end Hd
set_option Elab.async false
set_option linter.all false
set_option maxRecDepth 100000
set_option maxHeartbeats 4000000
namespace Hd
open PySem PySem.Spec L2 MP
variable {P : MP.Prog} [LibA P]
/-! ### worded rows -/
/-- an item of a row, of a kind -/
inductive It where
  | s (z : PySem.Str) | i (n : Nat)
def It.w : It → W
  | .s z => .str z
  | .i n => .int n
def It.ok (names : List PySem.Str) (kind : PySem.Str) : It → Bool
  | .s z => decide (z.length ≤ 1000) && (PyData.strOk z && (if kind = "text" then okText z else if kind = "service" then okName z && decide (z ∈ names) else decide (kind ≠ "index") && okName z))
  | .i n => decide (kind = "index") && decide (n ≤ 24)
theorem fits_strs (n : Nat) (l : List PySem.Str) : W.fits n (.tup (l.map W.str)) = true := by
  unfold W.fits
  induction l with
  | nil => rfl
  | cons a l ih => rw [List.map_cons]; unfold W.fitsL; rw [ih]; rfl
theorem ev_kinds {n : Nat} (hn : 1 ≤ n) {k : PySem.Str} {ks : List PySem.Str} {items : List It} {kvs : List (Key × W)} {h : Hq} (hv : valW kvs (.inr k) = some (.tup (ks.map W.str))) (hl : ks.length = items.length) (hi : items.length ≤ 10) (hk : PyData.strOk k = true) (his : ∀ x ∈ items, (x.w).shp = true ∧ x.w.d.depth ≤ 1) :
    (gam P n).fn "kinds" [.tup (.str k :: items.map It.w), .dct kvs] h = .ok (.tup (ks.map W.str)) h := by
  refine pure_call hn LibA.kinds (by rfl) ?_ ?_
  · have hsh : (W.tup (.str k :: items.map It.w)).shp = true := by
      unfold W.shp SeqAt.shaped
      simp only [W.d, W.ds, W.ds_eq, PyData.canLay0, PyData.canLayAll0, hk, PyData.depth, PyData.depthAll, List.map_map]
      have h1 : PyData.canLayAll0 (List.map (W.d ∘ It.w) items) = true := by
        clear hl hi
        induction items with
        | nil => rfl
        | cons a l ih =>
          simp only [List.map_cons, PyData.canLayAll0]
          have := (his a (by simp)).1
          unfold W.shp at this
          rw [ih fun x hx => his x (by simp [hx]), Bool.and_true]
          exact SeqAt.canLay_of_shaped this
      have h2 : PyData.depthAll (List.map (W.d ∘ It.w) items) ≤ 1 := by
        clear hl hi h1
        induction items with
        | nil => simp [PyData.depthAll]
        | cons a l ih =>
          have a1 := (his a (by simp)).2
          have a2 := ih fun x hx => his x (by simp [hx])
          simp only [List.map_cons, PyData.depthAll, Function.comp]
          omega
      rw [h1]
      simp only [Bool.true_and, decide_eq_true_eq]
      omega
    have hsh0 : (W.tup []).shp = true := rfl
    have hne : PyData.eqv (W.tup (.str k :: items.map It.w)).d (W.tup []).d = false := by simp [W.d, W.ds, PyData.eqv, PyData.eqvAll]
    have hl' : (ks.length : Int) + 1 = items.length + 1 := by omega
    have hs1 : (W.int ((ks.length : Int) + 1)).shp = true := rfl
    have hs2 : (W.int ((items.length : Int) + 1)).shp = true := rfl
    simp [fd_kinds, b_kinds, typW, isiB, cmpW, hsh, hsh0, hne, idxW, atI, ixN, bmOk, bmW, keyOf?, hv, isRef, isNon, b1W, seqOf, binW, hs1, hs2, hl, W.d, W.ds, PyData.eqv, PyData.eqvAll]
  · exact fits_strs _ _
end Hd
set_option Elab.async false
set_option linter.all false
set_option maxRecDepth 100000
set_option maxHeartbeats 4000000
namespace Hd
open PySem PySem.Spec L2 MP
variable {P : MP.Prog} [LibA P]
theorem shp_txt (z : PySem.Str) (h : PyData.strOk z = true) : SeqAt.shaped (.str z) = true := shp_str h
theorem shp_int (i : Int) : (W.int i).shp = true := rfl
theorem shp_cst {s : PySem.Str} (h : PyData.strOk s = true := by simp) : (W.str s).shp = true := shp_str h
theorem body15 {m : Nat} (hm : 3 ≤ m) {v0 v1 f : W} {names : List PySem.Str} {kind : PySem.Str} {it : It} {c : Option W} {h : Hq} {T : W → Hq → Prop} (hk : PyData.strOk kind = true) (hn : ∀ s ∈ names, PyData.strOk s = true) (ok : it.ok names kind = true) :
    SatS (evSs (gam P m) b_is_worded_0 [some v0, some v1, some (.lst (names.map W.str)), some f, some (.str kind), some it.w, c] h) (fun s' h' => (∃ c', s' = [some v0, some v1, some (.lst (names.map W.str)), some f, some (.str kind), some it.w, c']) ∧ h' = h) T := by
  have s1 := shp_str hk
  have s2 : (W.str "text").shp = true := shp_cst
  have s3 : (W.str "index").shp = true := shp_cst
  have s4 : (W.str "service").shp = true := shp_cst
  cases it with
  | s z =>
    unfold It.ok at ok
    simp only [Bool.and_eq_true, decide_eq_true_eq] at ok
    obtain ⟨k1, k2, k3⟩ := ok
    have e1 := ev_is_text (P := P) (n := m) (by omega) (h := h) k1
    have e2 := ev_is_name (P := P) (n := m) (by omega) (h := h) k1
    have s5 := shp_str k2
    have s6 := shp_strs hn
    by_cases c1 : kind = "text"
    · subst c1
      rw [if_pos rfl] at k3
      simp [b_is_worded_0, cmpW, s1, s3, s4, W.d, eqv_str, It.w, e1, k3]
    · rw [if_neg c1] at k3
      by_cases c2 : kind = "service"
      · subst c2
        rw [if_pos rfl] at k3
        simp only [Bool.and_eq_true, decide_eq_true_eq] at k3
        simp [b_is_worded_0, cmpW, s1, s2, s3, s5, s6, W.d, eqv_str, It.w, e2, k3.1, inD_strs, k3.2]
      · rw [if_neg c2] at k3
        simp only [Bool.and_eq_true, decide_eq_true_eq] at k3
        have c3 : ¬ kind = "index" := k3.1
        simp [b_is_worded_0, cmpW, s1, s2, s3, s4, W.d, eqv_str, It.w, e2, c1, c2, c3, k3.2]
  | i k =>
    unfold It.ok at ok
    simp only [Bool.and_eq_true, decide_eq_true_eq] at ok
    obtain ⟨rfl, k2⟩ := ok
    have e1 := ev_is_name_int (P := P) (n := m) (by omega) (i := k) (h := h)
    have e2 : (gam P m).fn "is_number" [.int k, .int 0, .int 24] h = .ok (.bl true) h := by
      rw [ev_is_number (by omega)]
      have : (k : Int) ≤ 24 := by omega
      simp [this]
    simp [b_is_worded_0, cmpW, s1, s2, s4, W.d, eqv_str, It.w, e1, C_steps, e2]
theorem It.shp {names : List PySem.Str} {kind : PySem.Str} {it : It} (ok : it.ok names kind = true) : (it.w).shp = true ∧ it.w.d.depth ≤ 1 := by
  cases it with
  | s z =>
    unfold It.ok at ok
    simp only [Bool.and_eq_true] at ok
    exact ⟨shp_str ok.2.1, by simp [It.w, W.d, PyData.depth]⟩
  | i k => exact ⟨rfl, by simp [It.w, W.d, PyData.depth]⟩
theorem zip_all {names : List PySem.Str} : ∀ {ks : List PySem.Str} {items : List It}, ks.length = items.length → (∀ p ∈ ks.zip items, p.2.ok names p.1 = true) → ∀ x ∈ items, ∃ k, x.ok names k = true
  | [], [], _, _, x, hx => by cases hx
  | k :: ks, i :: items, hl, hp, x, hx => by
    rcases List.mem_cons.mp hx with rfl | hx
    · exact ⟨k, hp (k, _) (by simp)⟩
    · exact zip_all (by simpa using hl) (fun p hq => hp p (by simp [hq])) x hx
  | [], _ :: _, hl, _, _, _ => by simp at hl
  | _ :: _, [], hl, _, _, _ => by simp at hl
theorem ev_is_worded {n : Nat} (hn : 5 ≤ n) {k : PySem.Str} {ks : List PySem.Str} {items : List It} {names : List PySem.Str} {kvs : List (Key × W)} {h : Hq} (hv : valW kvs (.inr k) = some (.tup (ks.map W.str))) (hl : ks.length = items.length) (hi : items.length ≤ 10) (hk : PyData.strOk k = true)
    (hks : ∀ s ∈ ks, PyData.strOk s = true) (hnm : ∀ s ∈ names, PyData.strOk s = true) (hok : ∀ p ∈ ks.zip items, p.2.ok names p.1 = true) :
    (gam P n).fn "is_worded" [.tup (.str k :: items.map It.w), .dct kvs, .lst (names.map W.str)] h = .ok (.bl true) h := by
  refine pure_call (by omega) LibA.is_worded (by rfl) ?_ rfl
  have e1 := ev_kinds (P := P) (n := n - 1) (by omega) (h := h) hv hl hi hk (fun x hx => let ⟨k, q⟩ := zip_all hl hok x hx; It.shp q)
  simp [fd_is_worded, b_is_worded, e1, cmpW, isRef, isNon, slcW, cut1, itemsW, srcW]
  have ez : ((ks.map W.str).zip (items.map It.w)).map (fun p => W.tup [p.1, p.2]) = (ks.zip items).map fun p => W.tup [.str p.1, p.2.w] := by
    rw [List.zip_map, List.map_map]; rfl
  rw [ez]
  refine SatS.seq (SatS.for_ (fun ws s h1 => ∃ rest : List (PySem.Str × It), ws = rest.map (fun p => W.tup [.str p.1, p.2.w]) ∧ (∀ p ∈ rest, p ∈ ks.zip items) ∧ h1 = h ∧ ∃ a b c, s = [some (.tup (.str k :: items.map It.w)), some (.dct kvs), some (.lst (names.map W.str)), some (.tup (ks.map W.str)), a, b, c])
    (fun w ws s h1 ⟨rest, e2, hin, e3, a, b, c, e4⟩ => ?_) (fun s h1 ⟨rest, e2, _, e3, a, b, c, e4⟩ => ?_) ⟨ks.zip items, rfl, fun _ h => h, rfl, none, none, none, rfl⟩)
  · cases rest with
    | nil => cases e2
    | cons p rest =>
      rw [List.map_cons] at e2
      cases e2
      subst e3 e4
      have hp := hin p (by simp)
      refine ⟨_, by simp; rfl, ?_⟩
      refine (body15 (m := n - 1) (by omega) (hks p.1 (List.of_mem_zip hp).1) hnm (hok p hp)).imp (fun s' h' ⟨⟨c', e5⟩, e6⟩ => ⟨rest, rfl, fun q hq => hin q (by simp [hq]), e6, _, _, _, e5⟩) fun _ _ z => z
  · subst e3 e4
    simp
end Hd
set_option Elab.async false
set_option linter.all false
set_option maxRecDepth 100000
set_option maxHeartbeats 4000000
namespace Hd
open PySem PySem.Spec L2 MP
variable {P : MP.Prog} [LibA P]
inductive Deed where
  | put (f t : PySem.Str) | drop (f : PySem.Str) | copy (f g : PySem.Str) | restart (s : PySem.Str) | flush
inductive Fact where
  | there (f : PySem.Str) | is_ (f t : PySem.Str) | as_ (f g : PySem.Str) | changed (i : Nat)
def Deed.nm : Deed → PySem.Str
  | .put .. => "put" | .drop _ => "drop" | .copy .. => "copy" | .restart _ => "restart" | .flush => "flush"
def Deed.its : Deed → List It
  | .put f t => [.s f, .s t] | .drop f => [.s f] | .copy f g => [.s f, .s g] | .restart s => [.s s] | .flush => []
def Deed.ks : Deed → List PySem.Str
  | .put .. => ["file", "text"] | .drop _ => ["file"] | .copy .. => ["file", "file"] | .restart _ => ["service"] | .flush => []
def Deed.w (d : Deed) : W := .tup (.str d.nm :: d.its.map It.w)
def Deed.ok (names : List PySem.Str) (d : Deed) : Prop := ∀ p ∈ d.ks.zip d.its, p.2.ok names p.1 = true
def Fact.nm : Fact → PySem.Str
  | .there _ => "there" | .is_ .. => "is" | .as_ .. => "as" | .changed _ => "changed"
def Fact.its : Fact → List It
  | .there f => [.s f] | .is_ f t => [.s f, .s t] | .as_ f g => [.s f, .s g] | .changed i => [.i i]
def Fact.ks : Fact → List PySem.Str
  | .there _ => ["file"] | .is_ .. => ["file", "text"] | .as_ .. => ["file", "file"] | .changed _ => ["index"]
def Fact.w (d : Fact) : W := .tup (.str d.nm :: d.its.map It.w)
def Fact.ok (names : List PySem.Str) (d : Fact) : Prop := ∀ p ∈ d.ks.zip d.its, p.2.ok names p.1 = true
theorem ev_is_deed {n : Nat} (hn : 6 ≤ n) {d : Deed} {names : List PySem.Str} {h : Hq} (hnm : ∀ s ∈ names, PyData.strOk s = true) (ok : d.ok names) : (gam P n).fn "is_deed" [d.w, .lst (names.map W.str)] h = .ok (.bl true) h := by
  refine pure_call (by omega) LibA.is_deed (by rfl) ?_ rfl
  have e1 := fun kvs hv => ev_is_worded (P := P) (n := n - 1) (by omega) (k := d.nm) (ks := d.ks) (items := d.its) (names := names) (kvs := kvs) (h := h) hv (by cases d <;> rfl) (by cases d <;> simp [Deed.its]) (by cases d <;> simp [Deed.nm]) (by cases d <;> simp [Deed.ks]) hnm ok
  have e2 := e1 [(Sum.inr "put", .tup [.str "file", .str "text"]), (Sum.inr "drop", .tup [.str "file"]), (Sum.inr "copy", .tup [.str "file", .str "file"]), (Sum.inr "restart", .tup [.str "service"]), (Sum.inr "flush", .tup [])] (by cases d <;> simp [valW, Deed.nm, Deed.ks])
  simp [fd_is_deed, b_is_deed, Deed.w, e2]
theorem ev_is_condition {n : Nat} (hn : 6 ≤ n) {b : Bool} {d : Fact} {names : List PySem.Str} {h : Hq} (hnm : ∀ s ∈ names, PyData.strOk s = true) (ok : d.ok names) : (gam P n).fn "is_condition" [.tup [.bl b, d.w], .lst (names.map W.str)] h = .ok (.bl true) h := by
  refine pure_call (by omega) LibA.is_condition (by rfl) ?_ rfl
  have e1 := fun kvs hv => ev_is_worded (P := P) (n := n - 1) (by omega) (k := d.nm) (ks := d.ks) (items := d.its) (names := names) (kvs := kvs) (h := h) hv (by cases d <;> rfl) (by cases d <;> simp [Fact.its]) (by cases d <;> simp [Fact.nm]) (by cases d <;> simp [Fact.ks]) hnm ok
  have e2 := e1 [(Sum.inr "there", .tup [.str "file"]), (Sum.inr "is", .tup [.str "file", .str "text"]), (Sum.inr "as", .tup [.str "file", .str "file"]), (Sum.inr "changed", .tup [.str "index"])] (by cases d <;> simp [valW, Fact.nm, Fact.ks])
  have e3 := ev_is_pair (P := P) (n := n - 1) (by omega) (a := .bl b) (b := d.w) (h := h)
  simp [fd_is_condition, b_is_condition, e3, idxW, atI, ixN, typW, isiB, Fact.w] at e2 ⊢
  simp [Fact.w] at e3
  simp [e3, e2]
structure Step where
  deed : Deed
  whens : List (Bool × Fact)
  notify : List PySem.Str
def condW (p : Bool × Fact) : W := .tup [.bl p.1, p.2.w]
def Step.w (s : Step) : W := .tup [s.deed.w, .tup (s.whens.map condW), .tup (s.notify.map W.str)]
def Deed.isFl : Deed → Bool
  | .flush => true | _ => false
structure Step.Ok (names : List PySem.Str) (s : Step) : Prop where
  deed : s.deed.ok names
  few : s.whens.length ≤ 6
  facts : ∀ p ∈ s.whens, p.2.ok names
  nts : namesB 3 s.notify = true
  sub : ∀ x ∈ s.notify, x ∈ names
  fl : s.deed.isFl = true → s.notify = []
theorem Deed.shp {d : Deed} {names : List PySem.Str} (ok : d.ok names) : d.w.shp = true := by
  have hs : ∀ z k, It.ok names k (.s z) = true → PyData.strOk z = true := fun z k h => by
    unfold It.ok at h
    simp only [Bool.and_eq_true] at h
    exact h.2.1
  unfold Deed.ok at ok
  cases d with
  | put f t =>
    have h1 := hs f "file" (ok ("file", .s f) (by simp [Deed.ks, Deed.its]))
    have h2 := hs t "text" (ok ("text", .s t) (by simp [Deed.ks, Deed.its]))
    simp [Deed.w, Deed.nm, Deed.its, It.w, W.shp, SeqAt.shaped, W.d, W.ds, PyData.canLay0, PyData.canLayAll0, PyData.depth, PyData.depthAll, h1, h2]
  | drop f =>
    have h1 := hs f "file" (ok ("file", .s f) (by simp [Deed.ks, Deed.its]))
    simp [Deed.w, Deed.nm, Deed.its, It.w, W.shp, SeqAt.shaped, W.d, W.ds, PyData.canLay0, PyData.canLayAll0, PyData.depth, PyData.depthAll, h1]
  | copy f g =>
    have h1 := hs f "file" (ok ("file", .s f) (by simp [Deed.ks, Deed.its]))
    have h2 := hs g "file" (ok ("file", .s g) (by simp [Deed.ks, Deed.its]))
    simp [Deed.w, Deed.nm, Deed.its, It.w, W.shp, SeqAt.shaped, W.d, W.ds, PyData.canLay0, PyData.canLayAll0, PyData.depth, PyData.depthAll, h1, h2]
  | restart f =>
    have h1 := hs f "service" (ok ("service", .s f) (by simp [Deed.ks, Deed.its]))
    simp [Deed.w, Deed.nm, Deed.its, It.w, W.shp, SeqAt.shaped, W.d, W.ds, PyData.canLay0, PyData.canLayAll0, PyData.depth, PyData.depthAll, h1]
  | flush => simp [Deed.w, Deed.nm, Deed.its, W.shp, SeqAt.shaped, W.d, W.ds, PyData.canLay0, PyData.canLayAll0, PyData.depth, PyData.depthAll]
theorem Deed.eq_fl (d : Deed) : PyData.eqv d.w.d (W.tup [.str "flush"]).d = d.isFl := by
  cases d <;> simp [Deed.w, Deed.nm, Deed.its, It.w, W.d, W.ds, PyData.eqv, PyData.eqvAll, Deed.isFl]
end Hd
set_option Elab.async false
set_option linter.all false
set_option maxRecDepth 100000
set_option maxHeartbeats 4000000
namespace Hd
open PySem PySem.Spec L2 MP
variable {P : MP.Prog} [LibA P]
theorem all_true {α : Type} (l : List α) : (l.map fun _ => true).all id = true := by
  induction l with
  | nil => rfl
  | cons a l ih => simp
theorem strOk_of_names {l : List PySem.Str} {m : Nat} : True := trivial
theorem ev_is_step {n : Nat} (hn : 7 ≤ n) {s : Step} {names : List PySem.Str} {h : Hq} (hnm : ∀ x ∈ names, PyData.strOk x = true) (hlen : ∀ x ∈ names, x.length ≤ 1000) (hl : s.notify.length ≤ 1000) (ok : s.Ok names) : (gam P n).fn "is_step" [s.w, .lst (names.map W.str)] h = .ok (.bl true) h := by
  refine pure_call (by omega) LibA.is_step (by rfl) ?_ rfl
  have e1 := ev_is_deed (P := P) (n := n - 1) (by omega) (h := h) hnm ok.deed
  have e2 := lc_enc (f := lcF (gam P (n - 1)) (.name 3) [3] .no (.call "is_condition" (.cons (.var 3) (.cons (.var 1) .nil))) [some s.w, some (.lst (names.map W.str)), none, none]) (enc := condW) (g := fun _ => W.bl true) (h := h) (l := s.whens) (fun p hp => by
      have := ev_is_condition (P := P) (n := n - 1) (by omega) (b := p.1) (h := h) hnm (ok.facts p hp)
      simp [lcF, wipeS, condW, this]) (line_le (by have := ok.few; omega))
  have e3 : (gam P (n - 1)).fn "is_names" [.tup (s.notify.map W.str), .int 3] h = .ok (.bl true) h := by
    have := ev_is_names (P := P) (n := n - 1) (by omega) (l := s.notify) (m := 3) (h := h) hl (fun x hx => hlen x (ok.sub x hx))
    rw [ok.nts] at this; exact this
  have sh : (W.lst (names.map W.str)).shp = true := shp_strs hnm
  have e4 := lc_enc (f := lcF (gam P (n - 1)) (.name 2) [2] .no (.cmp .isin (.var 2) (.var 1)) [some s.w, some (.lst (names.map W.str)), none, none]) (enc := W.str) (g := fun _ => W.bl true) (h := h) (l := s.notify) (fun x hx => by
      simp [lcF, wipeS, cmpW, shp_str (hnm x (ok.sub x hx)), sh, inD_strs, ok.sub x hx]) (line_le hl)
  have s1 := Deed.shp ok.deed
  have s2 : (W.tup [.str "flush"]).shp = true := by simp [W.shp, SeqAt.shaped, W.d, W.ds, PyData.canLay0, PyData.canLayAll0, PyData.depth, PyData.depthAll]
  have s3 : (W.tup (s.notify.map W.str)).shp = true := shp_tstrs fun x hx => hnm x (ok.sub x hx)
  have s4 : (W.tup []).shp = true := rfl
  have s5 : PyData.eqv (W.tup (s.notify.map W.str)).d (W.tup []).d = s.notify.isEmpty := by
    cases s.notify with
    | nil => rfl
    | cons a l => simp [W.d, W.ds, PyData.eqv, PyData.eqvAll]
  have dt : typW s.deed.w = some .tup := rfl
  have fl := ok.fl
  have few : ¬ (6 : Int) < s.whens.length := by have := ok.few; omega
  have i3 : (W.int 3).shp = true := rfl
  have e0 : PyData.eqv (W.int 3).d (W.int 3).d = true := rfl
  simp only [Step.w] at e2 e4
  have vd : ∀ h, vw h s.deed.w = s.deed.w := fun _ => rfl
  have aT : ∀ {α : Type} (l : List α), (l.all fun _ => true) = true := fun l => by simp
  have h5 : s.deed.isFl = true → s.notify.isEmpty = true := fun z => by rw [fl z]; rfl
  cases hfl : s.deed.isFl with
  | true =>
    have h7 := h5 hfl
    simp [fd_is_step, b_is_step, Step.w, typW, isiB, b1W, seqOf, cmpW, i3, e0, idxW, atI, ixN, e1, few, itemsW, srcW, e2, e3, e4, s1, s2, s3, s4, Deed.eq_fl, hfl, s5, aT, vd, h7]
  | false =>
    simp [fd_is_step, b_is_step, Step.w, typW, isiB, b1W, seqOf, cmpW, i3, e0, idxW, atI, ixN, e1, few, itemsW, srcW, e2, e3, e4, s1, s2, s3, s4, Deed.eq_fl, hfl, s5, aT, vd]
end Hd
set_option Elab.async false
set_option linter.all false
set_option maxRecDepth 100000
set_option maxHeartbeats 4000000
namespace Hd
open PySem PySem.Spec L2 MP
variable {P : MP.Prog} [LibA P]
theorem SatS.cons {G : Gam} {a : S} {b : Ss} {s : Sto} {h : Hq} {N : Sto → Hq → Prop} {T : W → Hq → Prop} (q : SatS (evS G a s h) (fun s h => SatS (evSs G b s h) N T) T) : SatS (evSs G (.cons a b) s h) N T := by
  rw [x_ss_cons]; exact SatS.seq q
theorem SatS.done {G : Gam} {s : Sto} {h : Hq} {N : Sto → Hq → Prop} {T : W → Hq → Prop} (q : N s h) : SatS (evSs G .nil s h) N T := by
  rw [x_ss_nil, SatS.nx_eq]; exact q
def Sub {α : Type} (a b : List α) : Prop := ∀ p ∈ a, p ∈ b
def Ord (sts : List Step) : Prop := ∀ (k : Nat) (s : Step), sts[k]? = some s → ∀ p ∈ s.whens, ∀ i, p.2 = .changed i → i < k ∧ ∃ s', sts[i]? = some s' ∧ s'.deed.isFl = false
theorem Fact.eq_ch (d : Fact) : PyData.eqv (W.str d.nm).d (W.str "changed").d = (match d with
    | .changed _ => true
    | _ => false) := by cases d <;> simp [Fact.nm, W.d, eqv_str]
theorem Fact.w0 (d : Fact) : ∃ its, d.w = .tup (.str d.nm :: its) := ⟨_, rfl⟩
theorem ev_keeps {n : Nat} (hn : 1 ≤ n) {sts : List Step} {names : List PySem.Str} {h : Hq} (hs : ∀ s ∈ sts, s.deed.ok names) (ord : Ord sts) : (gam P n).fn "keeps_order" [.tup (sts.map Step.w)] h = .ok (.bl true) h := by
  refine pure_call hn LibA.keeps_order (by rfl) ?_ rfl
  simp [fd_keeps_order, b_keeps_order, itemsW, srcW]
  refine SatS.seq (SatS.for_ (fun ws s h1 => ∃ (k : Nat) (rest : List Step), ws = (rest.zipIdx k).map (fun p => W.tup [.int p.2, p.1.w]) ∧ (∀ j, rest[j]? = sts[k + j]?) ∧ h1 = h ∧ ∃ a b c d e f, s = [some (.tup (sts.map Step.w)), a, b, c, d, e, f])
    (fun w ws s h1 ⟨k, rest, e1, e2, e3, a, b, c, d, e, f, e4⟩ => ?_) (fun s h1 ⟨k, rest, e1, e2, e3, a, b, c, d, e, f, e4⟩ => ?_) ⟨0, sts, ?_, fun j => by simp, rfl, none, none, none, none, none, none, rfl⟩)
  · cases rest with
    | nil => cases e1
    | cons st rest =>
      rw [List.zipIdx_cons, List.map_cons] at e1
      cases e1
      subst e3 e4
      have hk : sts[k]? = some st := by have := e2 0; simpa using this.symm
      refine ⟨_, by simp [Step.w]; rfl, ?_⟩
      unfold b_keeps_order_1
      refine SatS.cons ?_
      simp [itemsW, srcW]
      refine SatS.for_ (fun ws s hh => ∃ (wr : List (Bool × Fact)), ws = wr.map condW ∧ Sub wr st.whens ∧ hh = h1 ∧ ∃ b d e f, s = [some (.tup (sts.map Step.w)), some (.int k), b, some (.tup (st.whens.map condW)), d, e, f])
        (fun w ws s hh ⟨wr, e5, e6, e7, b, d, e, f, e8⟩ => ?_) (fun s hh ⟨wr, e5, e6, e7, b, d, e, f, e8⟩ => ?_) ⟨st.whens, rfl, fun _ h => h, rfl, _, _, _, _, rfl⟩
      · cases wr with
        | nil => cases e5
        | cons p wr =>
          rw [List.map_cons] at e5
          cases e5
          subst e7 e8
          obtain ⟨bb, fc⟩ := p
          have hin := e6 (bb, fc) (by simp)
          have e9 : Sub wr st.whens := fun q hq => e6 q (by simp [hq])
          refine ⟨_, by simp [condW]; rfl, ?_⟩
          have sn : (W.str fc.nm).shp = true := shp_str (by cases fc <;> simp [Fact.nm])
          have sc : (W.str "changed").shp = true := shp_cst
          have ec := Fact.eq_ch fc
          cases fc with
          | changed i =>
            obtain ⟨h1, s', h2, h3⟩ := ord k st hk _ hin i rfl
            have hlt : i < sts.length := (List.getElem?_eq_some_iff.mp h2).1
            have hge : ¬ (k : Int) ≤ i := by omega
            have s1 := Deed.shp (hs s' (List.mem_of_getElem? h2))
            have s2 : (W.tup [.str "flush"]).shp = true := by simp [W.shp, SeqAt.shaped, W.d, W.ds, PyData.canLay0, PyData.canLayAll0, PyData.depth, PyData.depthAll]
            have i1 : (W.int (i : Int)).shp = true := rfl
            have vd : ∀ h, vw h s'.deed.w = s'.deed.w := fun _ => rfl
            have hix : (List.map Step.w sts)[i]? = some s'.w := by rw [List.getElem?_map, h2]; rfl
            have hk2 : ¬ k ≤ i := by omega
            have hget : sts[i] = s' := by rw [List.getElem?_eq_getElem hlt] at h2; exact Option.some.inj h2
            simp only [Fact.nm] at sn ec
            simp [b_keeps_order_0, Fact.w, Fact.nm, Fact.its, It.w, idxW, atI, ixN, cmpW, sn, ec, hlt, hix, hget, Step.w, vd, s1, s2, Deed.eq_fl, h3, hk2]
            exact ⟨wr, rfl, e9⟩
          | there f1 =>
            simp only [Fact.nm] at sn ec
            simp [b_keeps_order_0, Fact.w, Fact.nm, Fact.its, It.w, idxW, atI, ixN, cmpW, sn, sc, ec]
            exact ⟨wr, rfl, e9⟩
          | is_ f1 t1 =>
            simp only [Fact.nm] at sn ec
            simp [b_keeps_order_0, Fact.w, Fact.nm, Fact.its, It.w, idxW, atI, ixN, cmpW, sn, sc, ec]
            exact ⟨wr, rfl, e9⟩
          | as_ f1 t1 =>
            simp only [Fact.nm] at sn ec
            simp [b_keeps_order_0, Fact.w, Fact.nm, Fact.its, It.w, idxW, atI, ixN, cmpW, sn, sc, ec]
            exact ⟨wr, rfl, e9⟩
      · subst e7 e8
        simp
        exact ⟨k + 1, rest, rfl, fun j => by have := e2 (j + 1); simp at this; rw [this]; congr 1; omega⟩
  · rw [List.zipIdx_map, List.map_map]
    rfl
  · subst e3 e4
    simp
end Hd
set_option Elab.async false
set_option linter.all false
set_option maxRecDepth 100000
set_option maxHeartbeats 4000000
namespace Hd
open PySem PySem.Spec L2 MP
variable {P : MP.Prog} [LibA P]
theorem lc_encA {α : Type} {enc : α → W} {f : W → Hq → R (Option W)} {g : α → W} {h : Hq} : ∀ {l : List α} {acc : List W}, (∀ a ∈ l, f (enc a) h = .ok (some (g a)) h) → acc.length + l.length ≤ MP.line → lcLoop f (l.map enc) acc h = .ok (acc ++ l.map g) h
  | [], acc, _, _ => by simp [lcLoop]
  | a :: l, acc, hf, hl => by
    rw [List.map_cons]
    show (f (enc a) h).bind _ = _
    rw [hf a (by simp)]
    show (if acc.length < MP.line then lcLoop f (l.map enc) (acc ++ [g a]) h else .bad) = _
    rw [List.length_cons] at hl
    rw [if_pos (by omega), lc_encA (fun b hb => hf b (by simp [hb])) (by simp; omega)]
    simp
theorem lc2_enc {α : Type} {enc : α → W} {f : W → List W → Hq → R (List W)} {g : α → List W} {h : Hq} : ∀ {l : List α} {acc : List W}, (∀ a ∈ l, ∀ acc : List W, acc.length ≤ 10000 → f (enc a) acc h = .ok (acc ++ g a) h) → acc.length + (l.flatMap g).length ≤ 10000 → lcLoop2 f (l.map enc) acc h = .ok (acc ++ l.flatMap g) h
  | [], acc, _, _ => by simp [lcLoop2]
  | a :: l, acc, hf, hl => by
    rw [List.map_cons]
    show (f (enc a) acc h).bind _ = _
    rw [List.flatMap_cons, List.length_append] at hl
    rw [hf a (by simp) acc (by omega)]
    show lcLoop2 f (l.map enc) (acc ++ g a) h = _
    rw [lc2_enc (fun b hb => hf b (by simp [hb])) (by rw [List.length_append]; omega)]
    simp
def Deed.fs : Deed → List PySem.Str
  | .put f _ => [f] | .drop f => [f] | .copy f g => [f, g] | _ => []
def Fact.fs : Fact → List PySem.Str
  | .there f => [f] | .is_ f _ => [f] | .as_ f g => [f, g] | .changed _ => []
def Deed.ts : Deed → List PySem.Str
  | .put _ t => [t] | _ => []
def Fact.ts : Fact → List PySem.Str
  | .is_ _ t => [t] | _ => []
inductive Rw where
  | dd (x : Deed) | ff (x : Fact)
def Rw.w : Rw → W
  | .dd x => x.w | .ff x => x.w
def Rw.fs : Rw → List PySem.Str
  | .dd x => x.fs | .ff x => x.fs
def Rw.ts : Rw → List PySem.Str
  | .dd x => x.ts | .ff x => x.ts
def Step.rows (s : Step) : List Rw := .dd s.deed :: s.whens.map fun p => .ff p.2
def Step.fs (s : Step) : List PySem.Str := s.rows.flatMap Rw.fs
def Step.ts (s : Step) : List PySem.Str := s.rows.flatMap Rw.ts
abbrev SV : Type := PySem.Str × List PySem.Str
def filesL (sv : List SV) (sts : List Step) : List PySem.Str := sv.flatMap (·.2) ++ sts.flatMap Step.fs
def textsL (sts : List Step) : List PySem.Str := sts.flatMap Step.ts
def ssetL (l : List PySem.Str) : List PySem.Str := l.eraseDups.mergeSort strLe
theorem eqvS (a b : PySem.Str) : PyData.eqv (W.str a).d (W.str b).d = decide (a = b) := by simp only [W.d, eqv_str]
theorem rows_w (s : Step) : s.rows.map Rw.w = s.deed.w :: s.whens.map fun p => p.2.w := by
  unfold Step.rows
  rw [List.map_cons, List.map_map]; rfl
theorem body20 {G : Gam} {p v2 v3 v4 v5 v6 : Option W} {o8 o9 o10 o11 o12 : Option W} {acc : List PySem.Str} {r : Rw} {h : Hq} {T : W → Hq → Prop} (hl : acc.length ≤ 5000) :
    SatS (evSs G b_files_in_0 [p, some (.lst (acc.map W.str)), v2, v3, v4, v5, v6, some r.w, o8, o9, o10, o11, o12] h) (fun s' h' => s' = [p, some (.lst ((acc ++ r.fs).map W.str)), v2, v3, v4, v5, v6, some r.w, o8, o9, o10, o11, o12] ∧ h' = h) T := by
  have l1 : acc.length + 1 ≤ MP.line := by unfold MP.line; omega
  have l2 : acc.length + 2 ≤ MP.line := by unfold MP.line; omega
  cases r with
  | dd d => cases d <;> simp [b_files_in_0, Rw.w, Rw.fs, Deed.w, Deed.nm, Deed.its, Deed.fs, It.w, idxW, atI, ixN, cmpW, flatW, inD, eqvS, binW, l1, l2]
  | ff d => cases d <;> simp [b_files_in_0, Rw.w, Rw.fs, Fact.w, Fact.nm, Fact.its, Fact.fs, It.w, idxW, atI, ixN, cmpW, flatW, inD, eqvS, binW, l1, l2]
theorem body20_1 {G : Gam} {p v2 v3 : Option W} {st : Step} {o7 o8 o9 o10 o11 o12 : Option W} {acc : List PySem.Str} {h : Hq} {T : W → Hq → Prop} (hw : st.whens.length ≤ 1000) (hl : acc.length + st.fs.length ≤ 3000) :
    SatS (evSs G b_files_in_1 [p, some (.lst (acc.map W.str)), v2, v3, some st.deed.w, some (.tup (st.whens.map condW)), some (.tup (st.notify.map W.str)), o7, o8, o9, o10, o11, o12] h) (fun s' h' => ∃ o7', s' = [p, some (.lst ((acc ++ st.fs).map W.str)), v2, v3, some st.deed.w, some (.tup (st.whens.map condW)), some (.tup (st.notify.map W.str)), o7', o8, o9, o10, o11, o12] ∧ h' = h) T := by
  have e1 := lc_enc (f := lcF G (.tup (.cons (.name 11) (.cons (.name 12) .nil))) [11, 12] .no (.var 12) [p, some (.lst (acc.map W.str)), v2, v3, some st.deed.w, some (.tup (st.whens.map condW)), some (.tup (st.notify.map W.str)), o7, o8, o9, o10, o11, o12]) (enc := condW) (g := fun q => q.2.w) (h := h) (l := st.whens) (fun q hq => by simp [lcF, wipeS, condW]) (line_le hw)
  have l1 : 1 + st.whens.length ≤ MP.line := by unfold MP.line; omega
  have vd : ∀ h, vw h st.deed.w = st.deed.w := fun _ => rfl
  unfold b_files_in_1
  refine SatS.cons ?_
  simp [itemsW, srcW, e1, binW, l1]
  rw [← rows_w]
  refine SatS.for_ (fun ws s hh => ∃ (rest : List Rw) (ac : List PySem.Str), ws = rest.map Rw.w ∧ ac ++ rest.flatMap Rw.fs = acc ++ st.fs ∧ hh = h ∧ ∃ o7', s = [p, some (.lst (ac.map W.str)), v2, v3, some st.deed.w, some (.tup (st.whens.map condW)), some (.tup (st.notify.map W.str)), o7', o8, o9, o10, o11, o12])
    (fun w ws s hh ⟨rest, ac, e2, e3, e5, a7, e6⟩ => ?_) (fun s hh ⟨rest, ac, e2, e3, e5, a7, e6⟩ => ?_) ⟨st.rows, acc, rfl, rfl, rfl, _, rfl⟩
  · cases rest with
    | nil => cases e2
    | cons r rest =>
      rw [List.map_cons] at e2
      cases e2
      subst e5 e6
      have hlen : ac.length ≤ 5000 := by
        have := congrArg List.length e3
        rw [List.length_append, List.length_append] at this
        omega
      refine ⟨_, by simp; rfl, ?_⟩
      exact (body20 (r := r) hlen).imp (fun s' h' ⟨e7, e8⟩ => ⟨rest, ac ++ r.fs, rfl, by rw [List.append_assoc, ← List.flatMap_cons]; exact e3, e8, _, e7⟩) fun _ _ z => z
  · have : rest = [] := by cases rest with
      | nil => rfl
      | cons a l => cases e2
    subst this e5 e6
    simp at e3
    subst e3
    simp
def pbW (sv : List SV) (sts : List Step) : W := .tup [.tup (sv.map encS), .tup (sts.map Step.w)]
theorem fits_sset (n : Nat) (l : List PySem.Str) : W.fits n (.lst (l.map W.str)) = true := by
  unfold W.fits
  induction l with
  | nil => rfl
  | cons a l ih => rw [List.map_cons]; unfold W.fitsL; rw [ih]; rfl
theorem len_flat {α β : Type} {f : α → List β} {a : α} : ∀ {l : List α}, a ∈ l → (f a).length ≤ (l.flatMap f).length
  | b :: l, h => by
    rw [List.flatMap_cons, List.length_append]
    rcases List.mem_cons.mp h with rfl | h
    · omega
    · have := len_flat (f := f) h; omega
theorem ev_files_in {n : Nat} (hn : 1 ≤ n) {sv : List SV} {sts : List Step} {h : Hq} (hw : ∀ s ∈ sts, s.whens.length ≤ 1000) (hsz : (filesL sv sts).length ≤ 3000) :
    (gam P n).fn "files_in" [pbW sv sts] h = .ok (.lst ((ssetL (filesL sv sts)).map W.str)) h := by
  refine pure_call hn LibA.files_in (by rfl) ?_ (fits_sset _ _)
  unfold filesL at hsz
  rw [List.length_append] at hsz
  show SatS (evSs _ b_files_in _ _) _ _
  unfold b_files_in
  refine SatS.cons ?_
  simp [fd_files_in, pbW]
  have e1 := lc2_enc (f := lcF2 (gam P (n - 1)) (.tup (.cons (.name 9) (.cons (.name 10) .nil))) [9, 10, 8] [8] (.var 10) (.name 8) (.var 8) [some (.tup [.tup (sv.map encS), .tup (sts.map Step.w)]), none, some (.tup (sv.map encS)), some (.tup (sts.map Step.w)), none, none, none, none, none, none, none, none, none]) (enc := encS) (g := fun p => p.2.map W.str) (h := h) (l := sv) (acc := []) (fun p hp acc hacc => by
      have hlp : p.2.length ≤ (sv.flatMap fun q => q.2).length := len_flat (f := fun q : SV => q.2) hp
      have e0 := lc_encA (f := lcF (gam P (n - 1)) (.name 8) [8] .no (.var 8) [some (.tup [.tup (sv.map encS), .tup (sts.map Step.w)]), none, some (.tup (sv.map encS)), some (.tup (sts.map Step.w)), none, none, none, none, none, some (.str p.1), some (.tup (p.2.map W.str)), none, none]) (enc := W.str) (g := W.str) (h := h) (l := p.2) (acc := acc) (fun a ha => by simp [lcF, wipeS]) (by unfold MP.line; omega)
      simp [lcF2, wipeS, encS, itemsW, srcW, e0]) (by
      have : (sv.flatMap fun p => p.2.map W.str).length = (sv.flatMap fun p => p.2).length := by
        rw [← List.map_flatMap, List.length_map]
      rw [this]
      show 0 + _ ≤ 10000
      omega)
  rw [x_lc2]
  simp [itemsW, srcW, e1]
  have hfm : (sv.flatMap fun p => p.2.map W.str) = (sv.flatMap fun p => p.2).map W.str := by rw [List.map_flatMap]
  rw [hfm]
  refine SatS.seq (SatS.for_ (fun ws s h1 => ∃ (rest : List Step) (acc : List PySem.Str), ws = rest.map Step.w ∧ acc ++ rest.flatMap Step.fs = filesL sv sts ∧ Sub rest sts ∧ h1 = h ∧ ∃ a4 a5 a6 a7 a8 a9 a10 a11 a12, s = [some (pbW sv sts), some (.lst (acc.map W.str)), some (.tup (sv.map encS)), some (.tup (sts.map Step.w)), a4, a5, a6, a7, a8, a9, a10, a11, a12])
    (fun w ws s h1 ⟨rest, acc, e2, e3, e4, e5, a4, a5, a6, a7, a8, a9, a10, a11, a12, e6⟩ => ?_) (fun s h1 ⟨rest, acc, e2, e3, e4, e5, a4, a5, a6, a7, a8, a9, a10, a11, a12, e6⟩ => ?_) ⟨sts, _, rfl, rfl, fun _ h => h, rfl, _, _, _, _, _, _, _, _, _, rfl⟩)
  · cases rest with
    | nil => cases e2
    | cons st rest =>
      rw [List.map_cons] at e2
      cases e2
      subst e5 e6
      have hlen : acc.length + st.fs.length ≤ 3000 := by
        have := congrArg List.length e3
        rw [List.length_append, List.flatMap_cons, List.length_append] at this
        unfold filesL at this
        rw [List.length_append] at this
        omega
      refine ⟨_, by simp [Step.w]; rfl, ?_⟩
      refine (body20_1 (st := st) (hw st (e4 st (by simp))) hlen).imp (fun s' h' ⟨o7, e7, e8⟩ => ⟨rest, acc ++ st.fs, rfl, by rw [List.append_assoc, ← List.flatMap_cons]; exact e3, fun q hq => e4 q (by simp [hq]), e8, _, _, _, _, _, _, _, _, _, e7⟩) fun _ _ z => z
  · have : rest = [] := by cases rest with
      | nil => rfl
      | cons a l => cases e2
    subst this e5 e6
    simp at e3
    subst e3
    have hz : (filesL sv sts).length < 4000 := by unfold filesL; rw [List.length_append]; omega
    simp [ssetW, strs_map', hz, ssetL]
end Hd
set_option Elab.async false
set_option linter.all false
set_option maxRecDepth 100000
set_option maxHeartbeats 4000000
namespace Hd
open PySem PySem.Spec L2 MP
theorem SatS.over {α : Type} {enc : α → W} {t : MP.T} {body : Sto → Hq → RS} {N : Sto → Hq → Prop} {T : W → Hq → Prop} {l : List α} (I : List α → Sto → Hq → Prop) (step : ∀ don a rest s h, l = don ++ a :: rest → I don s h → ∃ s', asgT t (enc a) s = some s' ∧ SatS (body s' h) (I (don ++ [a])) T) {s : Sto} {h : Hq} (q : I [] s h) (last : ∀ s h, I l s h → N s h) : SatS (forLoop t body (l.map enc) s h) N T := by
  refine SatS.for_ (fun ws s h => ∃ don rest, l = don ++ rest ∧ ws = rest.map enc ∧ I don s h) (fun w ws s h z => ?_) (fun s h z => ?_) ⟨[], l, rfl, rfl, q⟩
  · obtain ⟨don, rest, e1, e2, z⟩ := z
    cases rest with
    | nil => cases e2
    | cons a rest =>
      rw [List.map_cons] at e2
      cases e2
      obtain ⟨s', q1, q2⟩ := step don a rest s h e1 z
      exact ⟨s', q1, q2.imp (fun s h z => ⟨don ++ [a], rest, by simp [e1], rfl, z⟩) fun _ _ z => z⟩
  · obtain ⟨don, rest, e1, e2, z⟩ := z
    cases rest with
    | cons a rest => cases e2
    | nil => rw [List.append_nil] at e1; rw [e1] at last; exact last s h z
/-- a function that leaves what was there, and gives w -/
theorem pure_callL {P : Prog} {n : Nat} {f : PySem.Str} {fd : Fd} {ws : List W} {h : Hq} {w : W} (hn : 1 ≤ n) (hl : P.fns.lookup f = some fd) (hp : ws.length = fd.np) (q : SatS (evSs (gam P (n - 1)) fd.body (ws.map some ++ List.replicate (fd.ns - ws.length) none) h) (fun _ h' => w = .non ∧ ∃ l, h' = h ++ l) (fun w' h' => w' = w ∧ ∃ l, h' = h ++ l)) (f1 : W.fits h.length w = true) :
    (gam P n).fn f ws h = .ok w h := by
  obtain ⟨w', h', e, rfl, rfl⟩ := (show Sat ((gam P n).fn f ws h) (fun w' h' => w' = w ∧ h' = h) from Sat.call hn hl (Sat.runF hp (q.imp (fun _ h' z => let ⟨l, e⟩ := z.2; ⟨h, l, e, Pre.refl h, z.1.symm, rfl⟩) fun w' h' z => let ⟨l, e⟩ := z.2; ⟨h, l, e, Pre.refl h, by rw [z.1]; exact f1, z.1, rfl⟩))).ex
  exact e
theorem SatS.overE {α : Type} {enc : α → W} {t : MP.T} {body : Sto → Hq → RS} {N : Sto → Hq → Prop} {T : W → Hq → Prop} {l : List α} (I : List α → Sto → Hq → Prop) (step : ∀ don a rest s h, l = don ++ a :: rest → I don s h → ∃ s', asgT t (.tup [.int (don.length : Nat), enc a]) s = some s' ∧ SatS (body s' h) (I (don ++ [a])) T) {s : Sto} {h : Hq} (q : I [] s h) (last : ∀ s h, I l s h → N s h) : SatS (forLoop t body ((l.map enc).zipIdx.map fun p => W.tup [.int p.2, p.1]) s h) N T := by
  refine SatS.for_ (fun ws s h => ∃ don rest, l = don ++ rest ∧ ws = ((rest.map enc).zipIdx don.length).map (fun p => W.tup [.int p.2, p.1]) ∧ I don s h) (fun w ws s h z => ?_) (fun s h z => ?_) ⟨[], l, rfl, rfl, q⟩
  · obtain ⟨don, rest, e1, e2, z⟩ := z
    cases rest with
    | nil => cases e2
    | cons a rest =>
      rw [List.map_cons, List.zipIdx_cons, List.map_cons] at e2
      cases e2
      obtain ⟨s', q1, q2⟩ := step don a rest s h e1 z
      exact ⟨s', q1, q2.imp (fun s h z => ⟨don ++ [a], rest, by simp [e1], by simp, z⟩) fun _ _ z => z⟩
  · obtain ⟨don, rest, e1, e2, z⟩ := z
    cases rest with
    | cons a rest => cases e2
    | nil => rw [List.append_nil] at e1; rw [e1] at last; exact last s h z
section
variable {hh : Hq} {L : Nat} {o p : O} {ws : List W} {kvs : List (Key × W)}
theorem get_last (e : hh.length = L) : (hh ++ [o])[L]? = some o := by rw [← e]; simp
theorem set_last (e : hh.length = L) : (hh ++ [o]).set L p = hh ++ [p] := by rw [← e]; simp
theorem vw_last (e : hh.length = L) : vw (hh ++ [.lst ws]) (.ref L) = .lst ws := by
  simp only [vw, get_last e]
theorem vw_lastD (e : hh.length = L) : vw (hh ++ [.dct kvs]) (.ref L) = .dct kvs := by
  simp only [vw, get_last e]
end
theorem sset_of {l m : List PySem.Str} (h1 : m.Pairwise fun a b => strLe a b = true) (h2 : m.Nodup) (h3 : ∀ x ∈ l, x ∈ m) (h4 : ∀ x ∈ m, x ∈ l) : ssetL l = m := by
  have e := sort_eq (nodup_eraseDups l) h2 fun x => by rw [List.mem_eraseDups]; exact ⟨h3 x, h4 x⟩
  unfold ssetL
  rw [e]
  exact List.mergeSort_of_pairwise h1
end Hd
set_option Elab.async false
set_option linter.all false
set_option maxRecDepth 100000
set_option maxHeartbeats 4000000
namespace Hd
open PySem PySem.Spec L2 MP
variable {P : MP.Prog} [LibA P]
def Rw.isT (r : Rw) : Bool := !r.ts.isEmpty
def Rw.tw (r : Rw) : W := match r.ts with
  | [t] => .str t
  | _ => .non
theorem ts_rows (l : List Rw) : (l.filter Rw.isT).map Rw.tw = (l.flatMap Rw.ts).map W.str := by
  induction l with
  | nil => rfl
  | cons r l ih =>
    rw [List.flatMap_cons, List.map_append, ← ih]
    cases r with
    | dd d => cases d <;> simp [Rw.isT, Rw.tw, Rw.ts, Deed.ts]
    | ff d => cases d <;> simp [Rw.isT, Rw.tw, Rw.ts, Fact.ts]
theorem body21 {G : Gam} {p : Option W} {st : Step} {o5 o6 o7 o8 : Option W} {acc : List PySem.Str} {h : Hq} {T : W → Hq → Prop} (hw : st.whens.length ≤ 1000) (hl : acc.length + st.ts.length ≤ 3000) :
    SatS (evSs G b_texts_in_0 [p, some (.lst (acc.map W.str)), some st.deed.w, some (.tup (st.whens.map condW)), some (.tup (st.notify.map W.str)), o5, o6, o7, o8] h) (fun s' h' => ∃ o5', s' = [p, some (.lst ((acc ++ st.ts).map W.str)), some st.deed.w, some (.tup (st.whens.map condW)), some (.tup (st.notify.map W.str)), o5', o6, o7, o8] ∧ h' = h) T := by
  have e1 := lc_enc (f := lcF G (.tup (.cons (.name 7) (.cons (.name 8) .nil))) [7, 8] .no (.var 8) [p, some (.lst (acc.map W.str)), some st.deed.w, some (.tup (st.whens.map condW)), some (.tup (st.notify.map W.str)), o5, o6, o7, o8]) (enc := condW) (g := fun q => q.2.w) (h := h) (l := st.whens) (fun q hq => by simp [lcF, wipeS, condW]) (line_le hw)
  have l1 : 1 + st.whens.length ≤ MP.line := by unfold MP.line; omega
  have vd : ∀ h, vw h st.deed.w = st.deed.w := fun _ => rfl
  have e2 := lc_filter (f := lcF G (.name 6) [6] (.yes (.cmp .isin (.idx (.var 6) (.cst (.int 0))) (.tup (.cons (.cst (.str "put")) (.cons (.cst (.str "is")) .nil))))) (.idx (.var 6) (.cst (.int 2)))
    [p, some (.lst (acc.map W.str)), some st.deed.w, some (.tup (st.whens.map condW)), some (.tup (st.notify.map W.str)), some (.lst (st.rows.map Rw.w)), o6, o7, o8]) (enc := Rw.w) (p := Rw.isT) (g := Rw.tw) (h := h) (l := st.rows) (fun r hr => by
      cases r with
      | dd d => cases d <;> simp [lcF, wipeS, Rw.w, Rw.isT, Rw.tw, Rw.ts, Deed.ts, Deed.w, Deed.nm, Deed.its, It.w, idxW, atI, ixN, cmpW, flatW, inD, eqvS]
      | ff d => cases d <;> simp [lcF, wipeS, Rw.w, Rw.isT, Rw.tw, Rw.ts, Fact.ts, Fact.w, Fact.nm, Fact.its, It.w, idxW, atI, ixN, cmpW, flatW, inD, eqvS]) (by unfold Step.rows; simp; unfold MP.line; omega)
  rw [ts_rows] at e2
  have l2 : acc.length + st.ts.length ≤ MP.line := by unfold MP.line; omega
  have l2' : acc.length + (st.rows.flatMap Rw.ts).length ≤ MP.line := l2
  have er := rows_w st
  simp only [er] at e2
  simp [b_texts_in_0, itemsW, srcW, e1, binW, l1, e2]
  rw [List.length_flatMap] at l2'
  simp [l2', Step.ts]
theorem ev_texts_in {n : Nat} (hn : 1 ≤ n) {sv : List SV} {sts : List Step} {h : Hq} (hw : ∀ s ∈ sts, s.whens.length ≤ 1000) (hsz : (textsL sts).length ≤ 3000) :
    (gam P n).fn "texts_in" [pbW sv sts] h = .ok (.lst ((ssetL (textsL sts)).map W.str)) h := by
  refine pure_call hn LibA.texts_in (by rfl) ?_ (fits_sset _ _)
  show SatS (evSs _ b_texts_in _ _) _ _
  unfold b_texts_in
  refine SatS.cons ?_
  simp [fd_texts_in, pbW, idxW, atI, ixN, itemsW, srcW]
  refine SatS.seq (SatS.for_ (fun ws s h1 => ∃ (rest : List Step) (acc : List PySem.Str), ws = rest.map Step.w ∧ acc ++ rest.flatMap Step.ts = textsL sts ∧ Sub rest sts ∧ h1 = h ∧ ∃ a2 a3 a4 a5 a6 a7 a8, s = [some (pbW sv sts), some (.lst (acc.map W.str)), a2, a3, a4, a5, a6, a7, a8])
    (fun w ws s h1 ⟨rest, acc, e2, e3, e4, e5, a2, a3, a4, a5, a6, a7, a8, e6⟩ => ?_) (fun s h1 ⟨rest, acc, e2, e3, e4, e5, a2, a3, a4, a5, a6, a7, a8, e6⟩ => ?_) ⟨sts, [], rfl, rfl, fun _ h => h, rfl, _, _, _, _, _, _, _, rfl⟩)
  · cases rest with
    | nil => cases e2
    | cons st rest =>
      rw [List.map_cons] at e2
      cases e2
      subst e5 e6
      have hlen : acc.length + st.ts.length ≤ 3000 := by
        have := congrArg List.length e3
        rw [List.length_append, List.flatMap_cons, List.length_append] at this
        omega
      refine ⟨_, by simp [Step.w]; rfl, ?_⟩
      refine (body21 (st := st) (hw st (e4 st (by simp))) hlen).imp (fun s' h' ⟨o7, e7, e8⟩ => ⟨rest, acc ++ st.ts, rfl, by rw [List.append_assoc, ← List.flatMap_cons]; exact e3, fun q hq => e4 q (by simp [hq]), e8, _, _, _, _, _, _, _, e7⟩) fun _ _ z => z
  · have : rest = [] := by cases rest with
      | nil => rfl
      | cons a l => cases e2
    subst this e5 e6
    simp at e3
    subst e3
    have hz : (textsL sts).length < 4000 := by omega
    simp [ssetW, strs_map', hz, ssetL]
end Hd
set_option Elab.async false
set_option linter.all false
set_option maxRecDepth 100000
set_option maxHeartbeats 4000000
namespace Hd
open PySem PySem.Spec L2 MP
variable {P : MP.Prog} [LibA P]
theorem len_sset {l : List PySem.Str} (nd : l.Nodup) : (ssetL l).length = l.length := by
  unfold ssetL
  rw [List.length_mergeSort]
  exact ((List.perm_ext_iff_of_nodup (nodup_eraseDups l) nd).mpr fun x => List.mem_eraseDups).length_eq
theorem sset_val {l : List PySem.Str} (h : l.length < 4000) : ssetW (.lst (l.map W.str)) = some (.lst ((ssetL l).map W.str)) := by simp [ssetW, strs_map', h, ssetL]
structure PBOk (sv : List SV) (sts : List Step) : Prop where
  sv3 : sv.length ≤ 3
  serv : ∀ p ∈ sv, servB p = true
  sok : ∀ p ∈ sv, PyData.strOk p.1 = true ∧ p.1.length ≤ 1000 ∧ p.2.length ≤ 1000 ∧ ∀ x ∈ p.2, x.length ≤ 1000 ∧ PyData.strOk x = true
  nd : (sv.map (·.1)).Nodup
  st24 : sts.length ≤ 24
  step : ∀ s ∈ sts, s.Ok (sv.map (·.1)) ∧ s.notify.length ≤ 1000
  ord : Ord sts
  f6 : (ssetL (filesL sv sts)).length ≤ 6
  t6 : (ssetL (textsL sts)).length ≤ 6
  fz : (filesL sv sts).length ≤ 3000
  tz : (textsL sts).length ≤ 3000
section
variable {sv : List SV} {sts : List Step}
theorem PBOk.nmOk (o : PBOk sv sts) : ∀ x ∈ sv.map (·.1), PyData.strOk x = true := fun x hx => by
  obtain ⟨p, hp, rfl⟩ := List.mem_map.mp hx
  exact (o.sok p hp).1
theorem PBOk.nmLen (o : PBOk sv sts) : ∀ x ∈ sv.map (·.1), x.length ≤ 1000 := fun x hx => by
  obtain ⟨p, hp, rfl⟩ := List.mem_map.mp hx
  exact (o.sok p hp).2.1
theorem PBOk.wh (o : PBOk sv sts) : ∀ s ∈ sts, s.whens.length ≤ 1000 := fun s hs => by have := (o.step s hs).1.few; omega
theorem ev_is_playbook {n : Nat} (hn : 8 ≤ n) {h : Hq} (o : PBOk sv sts) : (gam P n).fn "is_playbook" [pbW sv sts] h = .ok (.bl true) h := by
  refine pure_call (by omega) LibA.is_playbook (by rfl) ?_ rfl
  have e1 := ev_is_pair (P := P) (n := n - 1) (by omega) (a := .tup (sv.map encS)) (b := .tup (sts.map Step.w)) (h := h)
  have e2 := lc_enc (f := lcF (gam P (n - 1)) (.name 4) [4] .no (.call "is_service" (.cons (.var 4) .nil)) [some (pbW sv sts), none, none, none, none, none]) (enc := encS) (g := fun _ => W.bl true) (h := h) (l := sv) (fun p hp => by
      obtain ⟨k1, k2, k3, k4⟩ := o.sok p hp
      have := ev_is_service (P := P) (n := n - 1) (by omega) (p := p) (h := h) k2 k3 (fun x hx => (k4 x hx).1)
      rw [o.serv p hp] at this
      simp [lcF, wipeS, this]) (line_le (by have := o.sv3; omega))
  have e3 := lc_enc (f := lcF (gam P (n - 1)) (.tup (.cons (.name 2) (.cons (.name 3) .nil))) [2, 3] .no (.var 2) [some (pbW sv sts), none, none, none, none, none]) (enc := encS) (g := fun p => W.str p.1) (h := h) (l := sv) (fun p hp => by
      simp [lcF, wipeS, encS]) (line_le (by have := o.sv3; omega))
  have e3' : sv.map (fun p => W.str p.1) = (sv.map (·.1)).map W.str := by rw [List.map_map]; rfl
  rw [e3'] at e3
  have e4 := lc_enc (f := lcF (gam P (n - 1)) (.name 5) [5] .no (.call "is_step" (.cons (.var 5) (.cons (.var 1) .nil))) [some (pbW sv sts), some (.lst ((sv.map (·.1)).map W.str)), none, none, none, none]) (enc := Step.w) (g := fun _ => W.bl true) (h := h) (l := sts) (fun s hs => by
      have := ev_is_step (P := P) (n := n - 1) (by omega) (s := s) (h := h) o.nmOk o.nmLen (o.step s hs).2 (o.step s hs).1
      simp [lcF, wipeS] at this ⊢
      simp [this]) (line_le (by have := o.st24; omega))
  have e5 := ev_keeps (P := P) (n := n - 1) (by omega) (sts := sts) (h := h) (fun s hs => (o.step s hs).1.deed) o.ord
  have e6 := ev_files_in (P := P) (n := n - 1) (by omega) (sv := sv) (sts := sts) (h := h) o.wh o.fz
  have e7 := ev_texts_in (P := P) (n := n - 1) (by omega) (sv := sv) (sts := sts) (h := h) o.wh o.tz
  have c1 : ¬ (3 : Int) < sv.length := by have := o.sv3; omega
  have c2 : ¬ (24 : Int) < sts.length := by have := o.st24; omega
  have c1' : ¬ 3 < sv.length := by have := o.sv3; omega
  have c2' : ¬ 24 < sts.length := by have := o.st24; omega
  have c3 : (sv.map (·.1)).length < 4000 := by have := o.sv3; simp; omega
  have c3' : sv.length < 4000 := by have := o.sv3; omega
  have c4 : (ssetL (sv.map (·.1))).length = sv.length := by rw [len_sset o.nd, List.length_map]
  have c5 : ((ssetL (filesL sv sts)).length : Int) ≤ 6 := by have := o.f6; omega
  have c6 : ((ssetL (textsL sts)).length : Int) ≤ 6 := by have := o.t6; omega
  have d1 : decide ((3 : Int) < sv.length) = false := decide_eq_false c1
  have d2 : decide ((24 : Int) < sts.length) = false := decide_eq_false c2
  have d3 : decide (((ssetL (filesL sv sts)).length : Int) ≤ 6) = true := decide_eq_true c5
  have d4 : decide (((ssetL (textsL sts)).length : Int) ≤ 6) = true := decide_eq_true c6
  have aT : ∀ {α : Type} (l : List α), (l.all fun _ => true) = true := fun l => by simp
  have se := sset_val c3
  have i1 : (W.int (sv.length : Int)).shp = true := rfl
  have f6 := o.f6
  have t6 := o.t6
  simp only [pbW] at e2 e3 e4 e6 e7
  have ii : PyData.eqv (W.int (sv.length : Int)).d (W.int (sv.length : Int)).d = true := by simp [W.d, PyData.eqv]
  simp only [List.map_map] at e3 e4 se
  simp [fd_is_playbook, b_is_playbook, pbW, e1, idxW, atI, ixN, typW, isiB, cmpW, b1W, seqOf, d1, d2, C_steps, C_files, itemsW, srcW, e2, aT, e3, se, c4, i1, ii, e4, e5, e6, e7, d3, d4]
theorem ev_need [HasF P "need_playbook" fd_need_playbook] {n : Nat} (hn : 9 ≤ n) {h : Hq} (o : PBOk sv sts) : (gam P n).fn "need_playbook" [pbW sv sts] h = .ok .non h := by
  refine pure_call (by omega) (HasF.lk (P := P) (f := "need_playbook") (fd := fd_need_playbook)) (by rfl) ?_ rfl
  have e1 := ev_is_playbook (P := P) (n := n - 1) (by omega) (h := h) o
  simp [fd_need_playbook, b_need_playbook, e1]
theorem ev_files_of [HasF P "need_playbook" fd_need_playbook] [HasF P "files_of" fd_files_of] {n : Nat} (hn : 10 ≤ n) {h : Hq} (o : PBOk sv sts) : (gam P n).fn "files_of" [pbW sv sts] h = .ok (.lst ((ssetL (filesL sv sts)).map W.str)) h := by
  refine pure_call (by omega) (HasF.lk (P := P) (f := "files_of") (fd := fd_files_of)) (by rfl) ?_ (fits_sset _ _)
  have e1 := ev_need (P := P) (n := n - 1) (by omega) (h := h) o
  have e6 := ev_files_in (P := P) (n := n - 1) (by omega) (sv := sv) (sts := sts) (h := h) o.wh o.fz
  simp [fd_files_of, b_files_of, e1, e6]
theorem ev_texts_of [HasF P "need_playbook" fd_need_playbook] [HasF P "texts_of" fd_texts_of] {n : Nat} (hn : 10 ≤ n) {h : Hq} (o : PBOk sv sts) : (gam P n).fn "texts_of" [pbW sv sts] h = .ok (.lst ((ssetL (textsL sts)).map W.str)) h := by
  refine pure_call (by omega) (HasF.lk (P := P) (f := "texts_of") (fd := fd_texts_of)) (by rfl) ?_ (fits_sset _ _)
  have e1 := ev_need (P := P) (n := n - 1) (by omega) (h := h) o
  have e6 := ev_texts_in (P := P) (n := n - 1) (by omega) (sv := sv) (sts := sts) (h := h) o.wh o.tz
  simp [fd_texts_of, b_texts_of, e1, e6]
end
end Hd
set_option Elab.async false
set_option linter.all false
set_option maxRecDepth 100000
set_option maxHeartbeats 4000000
namespace Hd
open PySem PySem.Spec L2 MP
variable {P : MP.Prog} [LibA P]
def dW (p : Nat × PySem.Str) : W := .tup [.int p.1, .str p.2]
def Deed.must (d : Deed) (reads : List PySem.Str) : Bool := match d with
  | .put f _ => decide (f ∈ reads)
  | .drop f => decide (f ∈ reads)
  | .copy f _ => decide (f ∈ reads)
  | _ => false
def dueS (sv : List SV) (k : Nat) (s : Step) : List (Nat × PySem.Str) := (sv.filter fun p => s.deed.must p.2 && !decide (p.1 ∈ s.notify)).map fun p => (k, p.1)
def dueF (sv : List SV) : Nat → List Step → List (Nat × PySem.Str)
  | _, [] => []
  | k, s :: sts => dueS sv k s ++ dueF sv (k + 1) sts
theorem dW_d (p : Nat × PySem.Str) : (dW p).d = .tuple [.int p.1, .str p.2] := by simp [dW, W.d, W.ds]
theorem sortOk_due {l : List (Nat × PySem.Str)} (h : ∀ p ∈ l, PyData.strOk p.2 = true) : sortOk (l.map dW) = true := by
  unfold sortOk
  have hd : W.ds (l.map dW) = l.map fun p => PyData.tuple [.int p.1, .str p.2] := by
    rw [W.ds_eq, List.map_map]
    exact List.map_congr_left fun p _ => dW_d p
  rw [hd]
  simp only [Bool.or_eq_true, Bool.and_eq_true, List.all_eq_true, List.mem_map, forall_exists_index, and_imp, forall_apply_eq_imp_iff₂]
  refine .inr ⟨fun p hp q hq => by simp [PySem.W.alike, PySem.W.alikeAll], .inl fun p hp => trivial, fun p hp => ⟨by simp [PyData.canLay0, PyData.canLayAll0, h p hp], by simp [PyData.depth, PyData.depthAll]⟩⟩
theorem sortW_mem {l : List (Nat × PySem.Str)} : ∀ w ∈ sortW (l.map dW), ∃ p ∈ l, w = dW p := by
  intro w hw
  unfold sortW at hw
  cases l with
  | nil => simp [strsOf] at hw
  | cons a l =>
    have : strsOf ((a :: l).map dW) = none := rfl
    rw [this] at hw
    have := (List.mergeSort_perm _ _).mem_iff.mp hw
    obtain ⟨p, hp, e⟩ := List.mem_map.mp this
    exact ⟨p, hp, e.symm⟩
theorem shp_due {l : List (Nat × PySem.Str)} (h : ∀ p ∈ l, PyData.strOk p.2 = true) : (W.lst (sortW (l.map dW))).shp = true := by
  have hm := sortW_mem (l := l)
  generalize sortW (l.map dW) = ws at hm
  have h1 : PyData.canLayAll0 (W.ds ws) = true := by
    induction ws with
    | nil => rfl
    | cons w ws ih =>
      obtain ⟨p, hp, rfl⟩ := hm w (by simp)
      simp only [W.ds, PyData.canLayAll0, ih fun w hw => hm w (by simp [hw]), dW_d]
      simp [PyData.canLay0, PyData.canLayAll0, h p hp]
  have h2 : PyData.depthAll (W.ds ws) ≤ 2 := by
    clear h1
    induction ws with
    | nil => simp [W.ds, PyData.depthAll]
    | cons w ws ih =>
      obtain ⟨p, hp, rfl⟩ := hm w (by simp)
      have := ih fun w hw => hm w (by simp [hw])
      simp only [W.ds, PyData.depthAll, dW_d, PyData.depth]
      omega
  unfold W.shp SeqAt.shaped
  simp only [W.d, PyData.canLay0, h1, PyData.depth, Bool.true_and]
  exact decide_eq_true (by omega)
theorem eqv_due (l : List (Nat × PySem.Str)) : PyData.eqv (W.lst (sortW (l.map dW))).d (W.lst (sortW (l.map dW))).d = true := by
  have hm := sortW_mem (l := l)
  generalize sortW (l.map dW) = ws at hm
  simp only [W.d, PyData.eqv]
  induction ws with
  | nil => simp [W.ds, PyData.eqvAll]
  | cons w ws ih =>
    obtain ⟨p, hp, rfl⟩ := hm w (by simp)
    simp only [W.ds, PyData.eqvAll, ih fun w hw => hm w (by simp [hw]), dW_d]
    simp [PyData.eqv, PyData.eqvAll]
section
variable {sv : List SV} {sts : List Step}
theorem must_cases (d : Deed) (reads : List PySem.Str) : True := trivial
/-- the inner row: one service -/
theorem body26 {G : Gam} {v0 v1 v4 : Option W} {d : Deed} {names notify reads : List PySem.Str} {nm : PySem.Str} {k : Nat} {acc : List (Nat × PySem.Str)} {h : Hq} {T : W → Hq → Prop} (hl : acc.length < 10000) :
    SatS (evSs G b_unnotified_0 [v0, some (.ref h.length), some (.int k), some d.w, v4, some (.tup (notify.map W.str)), some (.str nm), some (.tup (reads.map W.str))] (h ++ [.lst (acc.map dW)])) (fun s' h' => s' = [v0, some (.ref h.length), some (.int k), some d.w, v4, some (.tup (notify.map W.str)), some (.str nm), some (.tup (reads.map W.str))] ∧
      h' = h ++ [.lst ((acc ++ if d.must reads && !decide (nm ∈ notify) then [(k, nm)] else []).map dW)]) T := by
  have hl2 : acc.length < MP.line := by unfold MP.line; omega
  have c2 : ∀ f : PySem.Str, cmpW .isin (.str f) (.tup (reads.map W.str)) = some (decide (f ∈ reads)) := fun f => by
    simp only [cmpW, flatW, flat_strs, inD_strs]; rfl
  have c3 : cmpW .notin (.str nm) (.tup (notify.map W.str)) = some (!decide (nm ∈ notify)) := by
    simp only [cmpW, flatW, flat_strs, inD_strs]; rfl
  have c1 : cmpW .isin (.str d.nm) (.tup [.str "put", .str "drop", .str "copy"]) = some (match d with
      | .put .. => true
      | .drop _ => true
      | .copy .. => true
      | _ => false) := by cases d <;> simp [cmpW, flatW, inD, eqvS, Deed.nm]
  cases d with
  | restart s1 => simp only [Deed.nm] at c1; simp [b_unnotified_0, Deed.w, Deed.nm, Deed.its, It.w, idxW, atI, ixN, c1, Deed.must]
  | flush => simp only [Deed.nm] at c1; simp [b_unnotified_0, Deed.w, Deed.nm, Deed.its, It.w, idxW, atI, ixN, c1, Deed.must]
  | put f t =>
    simp only [Deed.nm] at c1
    cases hf : decide (f ∈ reads) <;> cases hm : decide (nm ∈ notify) <;> simp [b_unnotified_0, Deed.w, Deed.nm, Deed.its, It.w, idxW, atI, ixN, c1, c2, c3, Deed.must, hf, hm, bmOk, bmW, hl2, dW]
  | drop f =>
    simp only [Deed.nm] at c1
    cases hf : decide (f ∈ reads) <;> cases hm : decide (nm ∈ notify) <;> simp [b_unnotified_0, Deed.w, Deed.nm, Deed.its, It.w, idxW, atI, ixN, c1, c2, c3, Deed.must, hf, hm, bmOk, bmW, hl2, dW]
  | copy f t =>
    simp only [Deed.nm] at c1
    cases hf : decide (f ∈ reads) <;> cases hm : decide (nm ∈ notify) <;> simp [b_unnotified_0, Deed.w, Deed.nm, Deed.its, It.w, idxW, atI, ixN, c1, c2, c3, Deed.must, hf, hm, bmOk, bmW, hl2, dW]
end
end Hd
set_option Elab.async false
set_option linter.all false
set_option maxRecDepth 100000
set_option maxHeartbeats 4000000
namespace Hd
open PySem PySem.Spec L2 MP
variable {P : MP.Prog} [LibA P]
section
variable {sv : List SV} {sts : List Step}
theorem dueS_append (a b : List SV) (k : Nat) (s : Step) : dueS (a ++ b) k s = dueS a k s ++ dueS b k s := by simp [dueS]
theorem dueS_len (a : List SV) (k : Nat) (s : Step) : (dueS a k s).length ≤ a.length := by
  unfold dueS; rw [List.length_map]; exact List.length_filter_le _ _
theorem dueF_append (a b : List Step) : ∀ k, dueF sv k (a ++ b) = dueF sv k a ++ dueF sv (k + a.length) b := by
  induction a with
  | nil => intro k; simp [dueF]
  | cons s a ih => intro k; simp [dueF, ih, Nat.add_assoc, Nat.add_comm 1]
theorem dueF_len (a : List Step) : ∀ k, (dueF sv k a).length ≤ a.length * sv.length := by
  induction a with
  | nil => intro k; simp [dueF]
  | cons s a ih =>
    intro k
    have h1 := dueS_len sv k s
    have h2 := ih (k + 1)
    simp only [dueF, List.length_append, List.length_cons, Nat.add_mul]
    omega
theorem dueF_mem {a : List Step} : ∀ k, ∀ p ∈ dueF sv k a, p.2 ∈ sv.map (·.1) := by
  induction a with
  | nil => intro k p hp; simp [dueF] at hp
  | cons s a ih =>
    intro k p hp
    simp only [dueF, List.mem_append] at hp
    rcases hp with hp | hp
    · unfold dueS at hp
      obtain ⟨q, hq, rfl⟩ := List.mem_map.mp hp
      exact List.mem_map.mpr ⟨q, (List.mem_filter.mp hq).1, rfl⟩
    · exact ih _ p hp
theorem body26_1 {G : Gam} {v6 v7 : Option W} {s : Step} {k : Nat} {acc : List (Nat × PySem.Str)} {h : Hq} {T : W → Hq → Prop} (hl : acc.length + sv.length < 10000) :
    SatS (evSs G b_unnotified_1 [some (pbW sv sts), some (.ref h.length), some (.int k), some s.deed.w, some (.tup (s.whens.map condW)), some (.tup (s.notify.map W.str)), v6, v7] (h ++ [.lst (acc.map dW)])) (fun s' h' => (∃ a b, s' = [some (pbW sv sts), some (.ref h.length), some (.int k), some s.deed.w, some (.tup (s.whens.map condW)), some (.tup (s.notify.map W.str)), a, b]) ∧
      h' = h ++ [.lst ((acc ++ dueS sv k s).map dW)]) T := by
  unfold b_unnotified_1
  refine SatS.cons ?_
  simp [pbW, idxW, atI, ixN, itemsW, srcW]
  refine SatS.for_ (fun ws s' h' => ∃ don rest, sv = don ++ rest ∧ ws = rest.map encS ∧ h' = h ++ [.lst ((acc ++ dueS don k s).map dW)] ∧ ∃ a b, s' = [some (pbW sv sts), some (.ref h.length), some (.int k), some s.deed.w, some (.tup (s.whens.map condW)), some (.tup (s.notify.map W.str)), a, b])
    (fun w ws s' h' ⟨don, rest, e1, e2, e3, a, b, e4⟩ => ?_) (fun s' h' ⟨don, rest, e1, e2, e3, a, b, e4⟩ => ?_) ⟨[], sv, rfl, rfl, by simp [dueS], v6, v7, rfl⟩
  · cases rest with
    | nil => cases e2
    | cons p rest =>
      rw [List.map_cons] at e2
      cases e2
      subst e3 e4
      refine ⟨_, by simp [encS]; rfl, ?_⟩
      have := body26 (G := G) (v0 := some (pbW sv sts)) (v4 := some (.tup (s.whens.map condW))) (d := s.deed) (names := []) (notify := s.notify) (reads := p.2) (nm := p.1) (k := k) (acc := acc ++ dueS don k s) (h := h) (T := T) (v1 := none) (by
        have := dueS_len don k s
        rw [e1] at hl
        simp at hl ⊢
        omega)
      refine this.imp (fun s' h' z => ⟨don ++ [p], rest, by simp [e1], rfl, ?_, some (.str p.1), some (.tup (p.2.map W.str)), z.1⟩) fun _ _ z => z
      rw [z.2, dueS_append, ← List.append_assoc]
      congr 5
      cases hh : (s.deed.must p.2 && !decide (p.1 ∈ s.notify)) <;> simp [dueS, hh]
  · cases rest with
    | cons p rest => cases e2
    | nil =>
      subst e3 e4
      rw [List.append_nil] at e1
      subst e1
      simp [pbW]
theorem ev_unnotified [HasF P "need_playbook" fd_need_playbook] [HasF P "unnotified" fd_unnotified] {n : Nat} (hn : 10 ≤ n) {h : Hq} (o : PBOk sv sts) : (gam P n).fn "unnotified" [pbW sv sts] h = .ok (.ref (h.length + 1)) (h ++ [.lst ((dueF sv 0 sts).map dW), .lst (sortW ((dueF sv 0 sts).map dW))]) := by
  have e1 := ev_need (P := P) (n := n - 1) (by omega) (h := h) o
  have S : Sat ((gam P n).fn "unnotified" [pbW sv sts] h) (fun w h' => w = .ref (h.length + 1) ∧ h' = h ++ [.lst ((dueF sv 0 sts).map dW), .lst (sortW ((dueF sv 0 sts).map dW))]) := by
    refine Sat.call (by omega) (HasF.lk (P := P) (f := "unnotified") (fd := fd_unnotified)) (Sat.runFN (by rfl) ?_)
    have hsv := o.sv3
    have hst := o.st24
    have so := sortOk_due (l := dueF sv 0 sts) (fun p hp => o.nmOk _ (dueF_mem 0 p hp))
    unfold fd_unnotified b_unnotified
    refine SatS.cons ?_
    simp [e1]
    refine SatS.seq (SatS.imp (N := fun s' h' => h' = h ++ [.lst ((dueF sv 0 sts).map dW)] ∧ ∃ a b c d e f, s' = [some (pbW sv sts), some (.ref h.length), a, b, c, d, e, f]) (T := fun _ _ => False) ?_ ?_ ?_)
    · simp [pbW, idxW, atI, ixN, itemsW, srcW]
      refine SatS.for_ (fun ws s' h' => ∃ don rest, sts = don ++ rest ∧ ws = (rest.zipIdx don.length).map (fun p => W.tup [.int p.2, p.1.w]) ∧ h' = h ++ [.lst ((dueF sv 0 don).map dW)] ∧ ∃ a b c d e f, s' = [some (pbW sv sts), some (.ref h.length), a, b, c, d, e, f])
        (fun w ws s' h' ⟨don, rest, e1, e2, e3, a, b, c, d, e, f, e4⟩ => ?_) (fun s' h' ⟨don, rest, e1, e2, e3, a, b, c, d, e, f, e4⟩ => ?_) ⟨[], sts, rfl, ?_, by simp [dueF], none, none, none, none, none, none, rfl⟩
      · cases rest with
        | nil => cases e2
        | cons p rest =>
          rw [List.zipIdx_cons, List.map_cons] at e2
          cases e2
          subst e3 e4
          refine ⟨_, by simp [Step.w]; rfl, ?_⟩
          have := body26_1 (G := gam P (n - 1)) (sv := sv) (sts := sts) (v6 := e) (v7 := f) (s := p) (k := don.length) (acc := dueF sv 0 don) (h := h) (T := fun _ _ => False) (by
            have h1 := dueF_len (sv := sv) don 0
            have h2 : don.length ≤ 24 := by rw [e1] at hst; simp at hst; omega
            have h3 : don.length * sv.length ≤ 24 * 3 := Nat.mul_le_mul h2 hsv
            omega)
          refine this.imp (fun s' h' z => ⟨don ++ [p], rest, by simp [e1], by simp, ?_, ?_⟩) fun _ _ z => z
          · rw [z.2, dueF_append]; simp [dueF]
          · obtain ⟨a, b, z⟩ := z.1; exact ⟨_, _, _, _, _, _, z⟩
      · simp only [List.zipIdx_map, List.map_map]; rfl
      · cases rest with
        | cons p rest => simp [List.zipIdx_cons] at e2
        | nil =>
          subst e3 e4
          rw [List.append_nil] at e1
          subst e1
          exact ⟨rfl, _, _, _, _, _, _, rfl⟩
    · rintro s' h' ⟨rfl, a, b, c, d, e, f, rfl⟩
      simp [vw, so, W.fits]
    · intro w h' z; exact z.elim
  obtain ⟨w, h', e, rfl, rfl⟩ := S.ex
  exact e
end
end Hd
set_option Elab.async false
set_option linter.all false
set_option maxRecDepth 100000
set_option maxHeartbeats 4000000
namespace Hd
open PySem PySem.Spec L2 MP
variable {P : MP.Prog} [LibG P]
/-! ### the source of draws -/
def SrcO (o : O) : Prop := ∃ a b : Int, o = .lst [.int a, .int b] ∧ 0 ≤ a ∧ 0 ≤ b ∧ b < 2147483648
def Src (h : Hq) (i : Nat) : Prop := ∃ a b : Int, h[i]? = some (.lst [.int a, .int b]) ∧ 0 ≤ a ∧ 0 ≤ b ∧ b < 2147483648
def Eff (i : Nat) (h h' : Hq) : Prop := ∃ a b : Int, h' = h.set i (.lst [.int a, .int b]) ∧ i < h.length ∧ 0 ≤ a ∧ 0 ≤ b ∧ b < 2147483648
theorem Src.lt {h : Hq} {i : Nat} (s : Src h i) : i < h.length := by
  obtain ⟨a, b, e, _⟩ := s
  exact (List.getElem?_eq_some_iff.mp e).1
theorem Src.eff {h : Hq} {i : Nat} (s : Src h i) : Eff i h h := by
  have hl := s.lt
  obtain ⟨a, b, e, p⟩ := s
  refine ⟨a, b, ?_, hl, p⟩
  obtain ⟨h1, h2⟩ := List.getElem?_eq_some_iff.mp e
  rw [← h2, List.set_getElem_self]
theorem Eff.src {i : Nat} {h h' : Hq} (e : Eff i h h') : Src h' i := by
  obtain ⟨a, b, rfl, hl, p⟩ := e
  exact ⟨a, b, by simp [hl], p⟩
theorem Eff.len {i : Nat} {h h' : Hq} (e : Eff i h h') : h'.length = h.length := by
  obtain ⟨a, b, rfl, hl, p⟩ := e
  simp
theorem Eff.trans {i : Nat} {h h1 h2 : Hq} (e : Eff i h h1) (f : Eff i h1 h2) : Eff i h h2 := by
  obtain ⟨a, b, rfl, hl, p⟩ := e
  obtain ⟨a2, b2, rfl, hl2, p2⟩ := f
  exact ⟨a2, b2, by simp, hl, p2⟩
theorem Eff.app {i : Nat} {h h' l : Hq} (hi : i < h.length) (e : Eff i (h ++ l) h') : ∃ h0, h' = h0 ++ l ∧ Eff i h h0 := by
  obtain ⟨a, b, rfl, hl, p⟩ := e
  exact ⟨h.set i (.lst [.int a, .int b]), by rw [List.set_append_left _ _ hi], a, b, rfl, hi, p⟩
theorem Eff.pre {i : Nat} {h h' : Hq} (e : Eff i h h') : Pre h h' := by
  obtain ⟨a, b, rfl, hl, p⟩ := e
  refine ⟨by simp, fun j x y e1 e2 => ?_⟩
  rw [List.getElem?_set] at e2
  split at e2
  · cases e2; exact .inr rfl
  · rw [e1] at e2; cases e2; exact .inl rfl
theorem Src.app {i : Nat} {h l : Hq} (s : Src h i) : Src (h ++ l) i := by
  have hl := s.lt
  obtain ⟨a, b, e, p⟩ := s
  exact ⟨a, b, by rw [List.getElem?_append_left hl, e], p⟩
/-- the end of a call that has drawn -/
def EndE (i : Nat) (h : Hq) (Q : W → Prop) (w : W) (h' : Hq) : Prop := ∃ h0 l, h' = h0 ++ l ∧ Eff i h h0 ∧ Q w ∧ ∀ n, W.fits n w = true
theorem Sat.callE {P : Prog} {n : Nat} {f : PySem.Str} {fd : Fd} {ws : List W} {h : Hq} {i : Nat} {Q : W → Prop} (hn : 1 ≤ n) (hl : P.fns.lookup f = some fd) (hp : ws.length = fd.np) (q : SatS (evSs (gam P (n - 1)) fd.body (ws.map some ++ List.replicate (fd.ns - ws.length) none) h) (fun _ _ => False) (EndE i h Q)) :
    Sat ((gam P n).fn f ws h) (fun w h' => Q w ∧ Eff i h h') := by
  refine Sat.call hn hl (Sat.runF hp (q.imp (fun _ _ z => z.elim) fun w h' z => ?_))
  obtain ⟨h0, l, e, he, hq, hf⟩ := z
  exact ⟨h0, l, e, he.pre, hf _, hq, he⟩
theorem endE {i : Nat} {h h0 l : Hq} {Q : W → Prop} {w : W} (he : Eff i h h0) (hq : Q w) (hf : ∀ n, W.fits n w = true) : EndE i h Q w (h0 ++ l) := ⟨h0, l, rfl, he, hq, hf⟩
theorem endE0 {i : Nat} {h h0 : Hq} {Q : W → Prop} {w : W} (he : Eff i h h0) (hq : Q w) (hf : ∀ n, W.fits n w = true) : EndE i h Q w h0 := ⟨h0, [], by simp, he, hq, hf⟩
theorem ev_draw {n : Nat} (hn : 1 ≤ n) {h : Hq} {i : Nat} {m : Int} (s : Src h i) (h1 : 0 < m) (h2 : m < 1000000) :
    Sat ((gam P n).fn "_law_draw" [.ref i, .int m] h) (fun w h' => (∃ r : Nat, w = .int r ∧ (r : Int) < m) ∧ Eff i h h') := by
  refine Sat.callE (Q := fun w => ∃ r : Nat, w = .int r ∧ (r : Int) < m) hn LibG._law_draw (by rfl) ?_
  have hl := s.lt
  obtain ⟨a, b, e, pa, pb, pc⟩ := s
  have hm : ∀ x : Int, ∃ r : Nat, x % m = r ∧ (r : Int) < m := fun x => ⟨(x % m).toNat, by
    have := Int.emod_nonneg x (by omega : m ≠ 0); omega, by
    have := Int.emod_nonneg x (by omega : m ≠ 0)
    have := Int.emod_lt_of_pos x h1; omega⟩
  have hm2 : m < 1073741824 := by omega
  by_cases ha : 0 < a
  · obtain ⟨r, hr, hr2⟩ := hm a
    simp [fd__law_draw, b__law_draw, vw, e, idxW, atI, ixN, cmpW, ha, b1W, binW, h1, hr, hm2, asgTg]
    exact endE0 ⟨a / m, b, rfl, hl, Int.ediv_nonneg pa (by omega), pb, pc⟩ ⟨r, rfl, hr2⟩ fun _ => rfl
  · have q1 := Int.emod_nonneg (b * 48271) (by omega : (2147483647 : Int) ≠ 0)
    have q2 := Int.emod_lt_of_pos (b * 48271) (by omega : (0 : Int) < 2147483647)
    generalize hc : (b * 48271) % 2147483647 = c at q1 q2
    obtain ⟨r, hr, hr2⟩ := hm (c * c % 2147483629 / 64)
    have b1 : -(18446744073709551616) < c := by omega
    have b2 : c < 18446744073709551616 := by omega
    have es : ∀ o, (h.set i o)[i]? = some o := fun o => by simp [hl]
    simp [fd__law_draw, b__law_draw, vw, e, idxW, atI, ixN, cmpW, ha, b1W, binW, h1, es, asgTg, hc, b1, b2, hr]
    exact endE0 ⟨a, c, rfl, hl, pa, q1, by omega⟩ ⟨r, rfl, hr2⟩ fun _ => rfl
theorem ev_source {n : Nat} (hn : 1 ≤ n) {h : Hq} {ns : List Int} {k : Nat} (hk : k ≤ 1000) (hns : ns.length ≤ 1000) :
    Sat ((gam P n).fn "_law_source" [.scr ns, .int k] h) (fun w h' => w = .ref h.length ∧ ∃ o, h' = h ++ [o] ∧ SrcO o) := by
  refine Sat.call hn LibG._law_source (Sat.runFN (by rfl) ?_)
  have fin : ∀ (c : Int), 0 ≤ c → ∀ s0, SatS (evSs (gam P (n - 1)) (.cons (.ife (.cmp .lt (.var 2) (.bin .pow (.cst (.int 10)) (.cst (.int 18))))
  (.cons (.ret (.mlst (.cons (.cst (.int 0)) (.cons (.bin .add (.cst (.int 1)) (.bin .mod (.b1 .int_ (.bin .add (.bin .mul (.var 2) (.cst (.int 7919))) (.bin .mul (.cst (.int 104729)) (.var 1)))) (.cst (.int 2147483646)))) .nil))))
  .nil)
  .nil)
  (.cons (.ret (.mlst (.cons (.var 2) (.cons (.bin .add (.cst (.int 1)) (.bin .mod (.b1 .int_ (.bin .add (.var 2) (.var 1))) (.cst (.int 2147483646)))) .nil))))
  .nil)) [s0, some (.int k), some (.int c)] h) (fun _ _ => False) (fun w h' => W.fits h.length w = false ∧ w = .ref h.length ∧ ∃ o, h' = h ++ [o] ∧ SrcO o) := by
    intro c hc s0
    have q1 : ∀ x : Int, 0 ≤ x % 2147483646 := fun x => Int.emod_nonneg x (by omega)
    have q2 : ∀ x : Int, x % 2147483646 < 2147483646 := fun x => Int.emod_lt_of_pos x (by omega)
    have b2 : (k : Int) < 18446744073709551616 := by omega
    have b1 : -(18446744073709551616) < (k : Int) := by omega
    by_cases hh : c < 1000000000000000000
    · simp [binW, cmpW, hh, b1W, W.fits, b1, b2]
      exact ⟨_, _, rfl, by omega, by have := q1 (c * 7919 + 104729 * k); omega, by have := q2 (c * 7919 + 104729 * k); omega⟩
    · simp [binW, cmpW, hh, b1W, W.fits]
      exact ⟨_, _, rfl, hc, by have := q1 (c + k); omega, by have := q2 (c + k); omega⟩
  by_cases hh : k < ns.length
  · have e1 : atI ns (k : Int) = some ns[k] := by simp [atI, ixN, hh]
    have := fin (if ns[k] < 0 then -ns[k] else ns[k]) (by split <;> omega) (some (.scr ns))
    simp [fd__law_source, b__law_source, cmpW, b1W, seqOf, hh, idxW, e1] at this ⊢
    exact this
  · have := fin 0 (by omega) (some (.scr ns))
    simp [fd__law_source, b__law_source, cmpW, b1W, seqOf, hh] at this ⊢
    exact this
theorem ev_of {n : Nat} (hn : 2 ≤ n) {h : Hq} {i : Nat} {ws : List W} (s : Src h i) (h1 : 0 < ws.length) (h2 : ws.length < 1000) (hf : ∀ w ∈ ws, ∀ n, W.fits n w = true) :
    Sat ((gam P n).fn "_law_of" [.ref i, .lst ws] h) (fun w h' => w ∈ ws ∧ Eff i h h') := by
  refine Sat.callE (Q := fun w => w ∈ ws) (by omega) LibG._law_of (by rfl) ?_
  obtain ⟨w, h', e, ⟨r, rfl, hr⟩, he⟩ := (ev_draw (P := P) (n := n - 1) (by omega) (m := ws.length) s (by omega) (by omega)).ex
  have hr2 : r < ws.length := by omega
  simp [fd__law_of, b__law_of, b1W, seqOf, e, idxW, atI, ixN, hr2]
  exact endE0 he (List.getElem_mem hr2) fun n => hf _ (List.getElem_mem hr2) n
end Hd
set_option Elab.async false
set_option linter.all false
set_option maxRecDepth 100000
set_option maxHeartbeats 4000000
namespace Hd
open PySem PySem.Spec L2 MP
variable {P : MP.Prog} [LibG P]
theorem Sat.elim {α : Type} {r : R α} {Q : α → Hq → Prop} {C : Prop} (q : Sat r Q) (k : ∀ a h, r = .ok a h → Q a h → C) : C := by
  obtain ⟨a, h, e, z⟩ := q.ex
  exact k a h e z
theorem Sat.app {r : R W} {Q : W → Prop} {i : Nat} {h l : Hq} (q : Sat r fun w h' => Q w ∧ Eff i (h ++ l) h') (hi : i < h.length) : Sat r fun w h' => Q w ∧ ∃ h0, h' = h0 ++ l ∧ Eff i h h0 :=
  q.imp fun _ _ z => ⟨z.1, z.2.app hi⟩
def SIG : PySem.Str := "abcdefghijklmnopqrst"
def SG (c : Nat) : PySem.Str := ⟨#[SIG.cps.toList.getD c 0]⟩
def mkNm (c d e : Nat) : PySem.Str := (SG c ++ (if d = 0 then Str.empty else SG c)) ++ cutS "uvwxy" none (some (e : Int))
theorem nm_all : ∀ c < 20, ∀ d < 2, ∀ e < 3, (okName (mkNm c d e) && PyData.strOk (mkNm c d e) && decide ((mkNm c d e).length ≤ 8) && decide ((mkNm c d e).cps.toList.head? = some (97 + c))) = true := by decide +kernel
def okF (s : PySem.Str) : Prop := okName s = true ∧ PyData.strOk s = true ∧ s.length ≤ 8
theorem nm_ok {c d e : Nat} (hc : c < 20) (hd : d < 2) (he : e < 3) : okF (mkNm c d e) ∧ (mkNm c d e).cps.toList.head? = some (97 + c) := by
  have := nm_all c hc d hd e he
  simp only [Bool.and_eq_true, decide_eq_true_eq] at this
  exact ⟨⟨this.1.1.1, this.1.1.2, this.1.2⟩, this.2⟩
def NmL (a b : Nat) (xs : List PySem.Str) : Prop := ∀ (j : Nat) (x : PySem.Str), xs[j]? = some x → ∃ d e, d < 2 ∧ e < 3 ∧ x = mkNm ((a + b * j) % 20) d e
def Steps : List Nat := [1, 3, 7, 9, 11, 13, 17, 19]
theorem NmL.nodup {a b : Nat} {xs : List PySem.Str} (hb : b ∈ Steps) (n : NmL a b xs) (hl : xs.length ≤ 20) : xs.Nodup := by
  refine List.pairwise_iff_getElem.mpr fun i j hi hj hij e => ?_
  obtain ⟨d, f, hd, hf, e1⟩ := n i xs[i] (List.getElem?_eq_getElem hi)
  obtain ⟨d2, f2, hd2, hf2, e2⟩ := n j xs[j] (List.getElem?_eq_getElem hj)
  have h1 := (nm_ok (c := (a + b * i) % 20) (Nat.mod_lt _ (by omega)) hd hf).2
  have h2 := (nm_ok (c := (a + b * j) % 20) (Nat.mod_lt _ (by omega)) hd2 hf2).2
  rw [← e1, e, e2, h2] at h1
  have h3 := Option.some.inj h1
  simp only [Steps, List.mem_cons, List.not_mem_nil, or_false] at hb
  rcases hb with rfl | rfl | rfl | rfl | rfl | rfl | rfl | rfl <;> omega
theorem NmL.ok {a b : Nat} {xs : List PySem.Str} (n : NmL a b xs) : ∀ x ∈ xs, okF x := by
  intro x hx
  obtain ⟨j, hj⟩ := List.getElem?_of_mem hx
  obtain ⟨d, e, hd, he, rfl⟩ := n j x hj
  exact (nm_ok (Nat.mod_lt _ (by omega)) hd he).1
theorem NmL.snoc {a b d e : Nat} {xs : List PySem.Str} (n : NmL a b xs) (hd : d < 2) (he : e < 3) : NmL a b (xs ++ [mkNm ((a + b * xs.length) % 20) d e]) := by
  intro j x hx
  by_cases hj : j < xs.length
  · rw [List.getElem?_append_left hj] at hx; exact n j x hx
  · rw [List.getElem?_append_right (by omega)] at hx
    have : j = xs.length := by
      have := (List.getElem?_eq_some_iff.mp hx).1
      simp at this; omega
    subst this
    simp at hx
    exact ⟨d, e, hd, he, hx.symm⟩
theorem idx_sig {c : Nat} (hc : c < 20) : idxW (.str SIG) (.int (c : Int)) = some (.str (SG c)) := by
  have h1 : SIG.length ≤ MP.line := by decide
  have h2 : ∀ c : Nat, c < 20 → (atI SIG.cps.toList (c : Int)) = some (SIG.cps.toList.getD c 0) := by decide +kernel
  show (if SIG.length ≤ MP.line then _ else none) = _
  rw [if_pos h1, h2 c hc]
  rfl
theorem mul_sg {c d : Nat} (hd : d < 2) : binW .mul (.str (SG c)) (.int (d : Int)) = some (.str (if d = 0 then Str.empty else SG c)) := by
  have : d = 0 ∨ d = 1 := by omega
  rcases this with rfl | rfl <;> rfl
theorem add_sg {c d : Nat} (hd : d < 2) : binW .add (.str (SG c)) (.str (if d = 0 then Str.empty else SG c)) = some (.str (SG c ++ (if d = 0 then Str.empty else SG c))) := by
  have h1 : ∀ c, (SG c).length = 1 := fun c => rfl
  have h2 : (if d = 0 then Str.empty else SG c).length ≤ 1 := by
    have : d = 0 ∨ d = 1 := by omega
    rcases this with rfl | rfl
    · exact Nat.zero_le 1
    · exact Nat.le_refl 1
  exact if_pos (by rw [h1]; unfold MP.line; omega)
theorem slc_uv {e : Nat} : slcW (.str "uvwxy") none (some (e : Int)) = some (.str (cutS "uvwxy" none (some (e : Int)))) := by
  have h : ("uvwxy" : PySem.Str).length ≤ MP.line := by decide
  simp only [slcW, if_pos h]
theorem add_uv {c d e : Nat} (hc : c < 20) (hd : d < 2) (he : e < 3) : binW .add (.str (SG c ++ (if d = 0 then Str.empty else SG c))) (.str (cutS "uvwxy" none (some (e : Int)))) = some (.str (mkNm c d e)) := by
  have h := (nm_ok hc hd he).1.2.2
  have h2 : ∀ a b : PySem.Str, (a ++ b).length = a.length + b.length := fun a b => Array.size_append
  unfold mkNm at h
  rw [h2] at h
  exact if_pos (by unfold MP.line; omega)
theorem fitsL_strs (n : Nat) (l : List PySem.Str) : W.fits n (.lst (l.map W.str)) = true := by
  unfold W.fits
  induction l with
  | nil => rfl
  | cons a l ih => rw [List.map_cons]; unfold W.fitsL; rw [ih]; rfl
theorem idx_steps {w : W} (h : w ∈ [W.int 1, .int 3, .int 7, .int 9, .int 11, .int 13, .int 17, .int 19]) : ∃ b ∈ Steps, w = .int (b : Nat) := by
  simp only [List.mem_cons, List.not_mem_nil, or_false] at h
  rcases h with rfl | rfl | rfl | rfl | rfl | rfl | rfl | rfl
  · exact ⟨1, by decide, rfl⟩
  · exact ⟨3, by decide, rfl⟩
  · exact ⟨7, by decide, rfl⟩
  · exact ⟨9, by decide, rfl⟩
  · exact ⟨11, by decide, rfl⟩
  · exact ⟨13, by decide, rfl⟩
  · exact ⟨17, by decide, rfl⟩
  · exact ⟨19, by decide, rfl⟩
theorem mulW {x y : Int} (h1 : -(2 ^ 64) < x) (h2 : x < 2 ^ 64) : binW .mul (.int x) (.int y) = some (.int (x * y)) := by
  unfold binW
  exact if_pos (by rw [decide_eq_true h1, decide_eq_true h2]; rfl)
theorem mod20 (x : Int) : binW .mod (.int x) (.int 20) = some (.int (x % 20)) := rfl
theorem addW (x y : Int) : binW .add (.int x) (.int y) = some (.int (x + y)) := rfl
theorem sig_at {a b t : Nat} : idxW (.str SIG) (.int (((a : Int) + (b : Int) * (t : Int)) % 20)) = some (.str (SG ((a + b * t) % 20))) := by
  have h := idx_sig (c := (a + b * t) % 20) (Nat.mod_lt _ (by omega))
  have e : ((((a + b * t) % 20 : Nat)) : Int) = ((a : Int) + (b : Int) * (t : Int)) % 20 := by
    rw [Int.natCast_emod, Int.natCast_add, Int.natCast_mul]
    rfl
  rw [← e]; exact h
def St31 (i : Nat) (many a b : Int) (L : Nat) (t v7 : Option W) : Sto := [some (.ref i), some (.int many), t, some (.str SIG), some (.ref L), some (.int a), some (.int b), v7]
def Out31 (i : Nat) (many : Int) (a b : Nat) (t : Int) (h0 : Hq) (xs : List PySem.Str) (s' : Sto) (h' : Hq) : Prop := ∃ y v7' h1, s' = St31 i many a b h0.length (some (.int t)) v7' ∧ Eff i h0 h1 ∧ h' = h1 ++ [.lst ((xs ++ [y]).map W.str)] ∧ NmL a b (xs ++ [y])
theorem body31_0 {n : Nat} (hn : 2 ≤ n) {i a b : Nat} {many A B t : Int} {h0 : Hq} {xs : List PySem.Str} {v7 : Option W} (s : Src h0 i) (hb : b ∈ Steps) (hA : A = a) (hB : B = b) (hx : t = xs.length) (ht : xs.length < 1000) (nm : NmL a b xs) {T : W → Hq → Prop} :
    SatS (evSs (gam P n) b__law_names_0 (St31 i many A B h0.length (some (.int t)) v7) (h0 ++ [.lst (xs.map W.str)])) (Out31 i many a b t h0 xs) T := by
  have hlt := s.lt
  obtain ⟨_, _, e1, ⟨d, rfl, hd⟩, h1, rfl, he1⟩ := (Sat.app (ev_draw (P := P) (n := n) (by omega) (m := 2) (s.app (l := [.lst (xs.map W.str)])) (by omega) (by omega)) hlt).ex
  have hl1 := he1.len
  obtain ⟨_, _, e2, ⟨e, rfl, hee⟩, h2, rfl, he2⟩ := (Sat.app (ev_draw (P := P) (n := n) (by omega) (m := 3) (he1.src.app (l := [.lst (xs.map W.str)])) (by omega) (by omega)) he1.src.lt).ex
  have hb2 : b < 1000 := (show ∀ b ∈ Steps, b < 1000 by decide) b hb
  have m1 : binW .mul (.int B) (.int t) = some (.int (B * t)) := mulW (by omega) (by omega)
  have m4 : idxW (.str SIG) (.int ((A + B * t) % 20)) = some (.str (SG ((a + b * xs.length) % 20))) := by
    rw [hA, hB, hx]
    exact sig_at (a := a) (b := b) (t := xs.length)
  have hc : (a + b * xs.length) % 20 < 20 := Nat.mod_lt _ (by omega)
  have hd2 : d < 2 := by omega
  have he3 : e < 3 := by omega
  have hl2 := he2.len
  have g : ∀ (l : Hq) (o : O), l.length = h0.length → (l ++ [o])[h0.length]? = some o := fun l o e => by rw [← e]; simp
  have g2 : ∀ (l : Hq) (o p : O), l.length = h0.length → (l ++ [o]).set h0.length p = l ++ [p] := fun l o p e => by rw [← e]; simp
  have xl : xs.length < MP.line := by unfold MP.line; omega
  unfold St31
  simp [b__law_names_0, m1, addW, mod20, m4, bmOk, g _ _ rfl, e1, e2, mul_sg hd2, add_sg hd2, slc_uv, add_uv hc hd2 he3, bmW, g _ _ (hl2.trans hl1), g2 _ _ _ (hl2.trans hl1), xl]
  refine ⟨mkNm ((a + b * xs.length) % 20) d e, some (.str (SG ((a + b * xs.length) % 20))), h2, by rw [hA, hB]; rfl, he1.trans he2, by simp, nm.snoc hd2 he3⟩
end Hd
set_option Elab.async false
set_option linter.all false
set_option maxRecDepth 100000
set_option maxHeartbeats 4000000
namespace Hd
open PySem PySem.Spec L2 MP
variable {P : MP.Prog} [LibG P]
def Rng (t m : Nat) : List W := (List.range' t (m - t)).map fun (i : Nat) => W.int (i : Int)
theorem Rng.cons {t m : Nat} (h : t < m) : Rng t m = .int (t : Int) :: Rng (t + 1) m := by
  unfold Rng
  rw [show m - t = (m - (t + 1)) + 1 by omega, List.range'_succ]
  rfl
theorem Rng.nil {t m : Nat} (h : m ≤ t) : Rng t m = [] := by
  unfold Rng
  rw [show m - t = 0 by omega]; rfl
theorem Rng.items {m : Nat} (h : m < 1000000) : itemsW .range [.int (m : Int)] = some (Rng 0 m) := by
  have : (decide (-(2 ^ 62) ≤ (m : Int)) && decide ((m : Int) < 2 ^ 62)) = true := by
    rw [decide_eq_true (by omega), decide_eq_true (by omega)]; rfl
  unfold itemsW Rng
  simp only [this, if_true, Int.toNat_natCast, Nat.sub_zero, List.range_eq_range']
/-- a loop over a range -/
theorem SatS.rng {i : Nat} {body : Sto → Hq → RS} {N : Sto → Hq → Prop} {T : W → Hq → Prop} {m : Nat} (I : Nat → Sto → Hq → Prop) (step : ∀ t s h, t < m → I t s h → SatS (body (s.set i (some (.int (t : Int)))) h) (I (t + 1)) T) {s : Sto} {h : Hq} (q : I 0 s h) (last : ∀ s h, I m s h → N s h) : SatS (forLoop (.name i) body (Rng 0 m) s h) N T := by
  refine SatS.for_ (fun ws s h => ∃ t, t ≤ m ∧ ws = Rng t m ∧ I t s h) (fun w ws s h z => ?_) (fun s h z => ?_) ⟨0, by omega, rfl, q⟩
  · obtain ⟨t, ht, ew, z⟩ := z
    rcases Nat.lt_or_ge t m with hlt | hge
    · rw [Rng.cons hlt] at ew
      cases ew
      exact ⟨_, x_asg_name, (step t s h hlt z).imp (fun s h z => ⟨t + 1, by omega, rfl, z⟩) fun _ _ z => z⟩
    · rw [Rng.nil hge] at ew; cases ew
  · obtain ⟨t, ht, ew, z⟩ := z
    rcases Nat.lt_or_ge t m with hlt | hge
    · rw [Rng.cons hlt] at ew; cases ew
    · have : t = m := by omega
      subst this
      exact last s h z
def Out31L (i : Nat) (M A B : Int) (L many a b : Nat) (h2 : Hq) (s' : Sto) (h' : Hq) : Prop := ∃ xs h3 t v7, s' = St31 i M A B L t v7 ∧ Eff i h2 h3 ∧ h' = h3 ++ [.lst (xs.map W.str)] ∧ xs.length = many ∧ NmL a b xs
theorem loop31 {n : Nat} (hn : 2 ≤ n) {i a b L many : Nat} {M A B : Int} {h2 : Hq} (s : Src h2 i) (hL : h2.length = L) (hm : many ≤ 20) (hb : b ∈ Steps) (hA : A = a) (hB : B = b) : SatS (forLoop (.name 2) (fun s h => evSs (gam P n) b__law_names_0 s h) (Rng 0 many) (St31 i M A B L none none) (h2 ++ [.lst []])) (Out31L i M A B L many a b h2) (fun _ _ => False) := by
  refine SatS.rng (fun t s' h' => Out31L i M A B L t a b h2 s' h') (fun t s' h' ht z => ?_) ⟨[], h2, none, none, rfl, s.eff, rfl, rfl, fun j x hx => by simp at hx⟩ fun s' h' z => z
  obtain ⟨xs, h3, tv, v7, es, ee, eh, el, en⟩ := z
  subst es eh
  have hl3 : h3.length = L := ee.len.trans hL
  have := body31_0 (P := P) (n := n) hn (i := i) (a := a) (b := b) (many := M) (A := A) (B := B) (t := t) (h0 := h3) (xs := xs) (v7 := v7) (T := fun _ _ => False) ee.src hb hA hB (by rw [el]) (by omega) en
  rw [hl3] at this
  have e : (St31 i M A B L tv v7).set 2 (some (.int (t : Int))) = St31 i M A B L (some (.int (t : Int))) v7 := rfl
  rw [e]
  refine this.imp (fun s' h' q => ?_) fun _ _ z => z
  obtain ⟨y, v7', h4, q1, q2, q3, q4⟩ := q
  rw [hl3, ← hA, ← hB] at q1
  exact ⟨xs ++ [y], h4, some (.int t), v7', q1, ee.trans q2, q3, by simp [el], q4⟩
def Names (many : Nat) (w : W) : Prop := ∃ xs : List PySem.Str, w = .lst (xs.map W.str) ∧ xs.length = many ∧ xs.Nodup ∧ ∀ x ∈ xs, okF x
theorem ev_names {n : Nat} (hn : 4 ≤ n) {h : Hq} {i many : Nat} {M : Int} (s : Src h i) (hM : M = many) (hm : many ≤ 20) :
    Sat ((gam P n).fn "_law_names" [.ref i, .int M] h) (fun w h' => Names many w ∧ Eff i h h') := by
  refine Sat.callE (Q := Names many) (by omega) LibG._law_names (by rfl) ?_
  have hlt := s.lt
  obtain ⟨_, _, e1, ⟨a, rfl, ha⟩, h1, rfl, he1⟩ := (Sat.app (ev_draw (P := P) (n := n - 1) (by omega) (m := 20) (s.app (l := [.lst []])) (by omega) (by omega)) hlt).ex
  obtain ⟨_, _, e2, hw, h2, rfl, he2⟩ := (Sat.app (ev_of (P := P) (n := n - 1) (by omega) (ws := [W.int 1, .int 3, .int 7, .int 9, .int 11, .int 13, .int 17, .int 19]) (he1.src.app (l := [.lst []])) (by decide) (by decide) (by intro w hw n; simp at hw; rcases hw with rfl | rfl | rfl | rfl | rfl | rfl | rfl | rfl <;> rfl)) he1.src.lt).ex
  obtain ⟨b, hb, rfl⟩ := idx_steps hw
  have hl : h2.length = h.length := he2.len.trans he1.len
  obtain ⟨A, hA⟩ : ∃ A : Int, A = a := ⟨_, rfl⟩
  obtain ⟨B, hB⟩ : ∃ B : Int, B = b := ⟨_, rfl⟩
  rw [← hA] at e1
  rw [← hB] at e2
  have ir := Rng.items (m := many) (by omega)
  rw [← hM] at ir
  have e2' : (gam P (n - 1)).fn "_law_of" [.ref i, .lst [W.int 1, .int 3, .int 7, .int 9, .int 11, .int 13, .int 17, .int 19]] (h1 ++ [.lst []]) = .ok (.int B) (h2 ++ [.lst []]) := e2
  unfold fd__law_names b__law_names
  simp [e1, e2', ir]
  refine SatS.seq ((loop31 (P := P) (n := n - 1) (by omega) (M := M) (A := A) (B := B) he2.src hl hm hb hA hB).imp (fun s' h' q => ?_) fun _ _ z => z.elim)
  obtain ⟨xs, h3, t, v7, q1, q2, q3, q4, q5⟩ := q
  subst q1 q3
  have hl3 : h3.length = h.length := q2.len.trans hl
  have g : (h3 ++ [O.lst (xs.map W.str)])[h.length]? = some (O.lst (xs.map W.str)) := by rw [← hl3]; simp
  have g2 : (h3 ++ [O.lst (xs.map W.str)]).set h.length O.dead = h3 ++ [O.dead] := by rw [← hl3]; simp
  unfold St31
  simp [g, g2]
  exact endE ((he1.trans he2).trans q2) ⟨xs, rfl, q4, q5.nodup hb (by omega), q5.ok⟩ fun n => fitsL_strs n xs
def TXT : List PySem.Str := ["", "a", "b", "c", "on", "off", "zzzzzzzzzzzz", "d", "yes"]
def okT (s : PySem.Str) : Prop := okText s = true ∧ PyData.strOk s = true ∧ s.length ≤ 12
theorem txt_ok : ∀ x ∈ TXT, okT x := by
  have : ∀ x ∈ TXT, (okText x && PyData.strOk x && decide (x.length ≤ 12)) = true := by decide +kernel
  intro x hx
  have := this x hx
  simp only [Bool.and_eq_true, decide_eq_true_eq] at this
  exact ⟨this.1.1, this.1.2, this.2⟩
end Hd
set_option Elab.async false
set_option linter.all false
set_option maxRecDepth 100000
set_option maxHeartbeats 4000000
namespace Hd
open PySem PySem.Spec L2 MP
variable {P : MP.Prog} [LibG P]
def Steps9 : List Nat := [1, 2, 4, 5, 7, 8]
theorem idx_steps9 {w : W} (h : w ∈ [W.int 1, .int 2, .int 4, .int 5, .int 7, .int 8]) : ∃ b ∈ Steps9, w = .int (b : Nat) := by
  simp only [List.mem_cons, List.not_mem_nil, or_false] at h
  rcases h with rfl | rfl | rfl | rfl | rfl | rfl
  · exact ⟨1, by decide, rfl⟩
  · exact ⟨2, by decide, rfl⟩
  · exact ⟨4, by decide, rfl⟩
  · exact ⟨5, by decide, rfl⟩
  · exact ⟨7, by decide, rfl⟩
  · exact ⟨8, by decide, rfl⟩
def txtAt (x : Int) : PySem.Str := TXT.getD (x % 9).toNat ""
theorem txt_at (x : Int) : idxW (.lst [W.str "", .str "a", .str "b", .str "c", .str "on", .str "off", .str "zzzzzzzzzzzz", .str "d", .str "yes"]) (.int (x % 9)) = some (.str (txtAt x)) ∧ okT (txtAt x) := by
  have h1 := Int.emod_nonneg x (by omega : (9 : Int) ≠ 0)
  have h2 := Int.emod_lt_of_pos x (by omega : (0 : Int) < 9)
  unfold txtAt
  generalize x % 9 = y at h1 h2
  have : y = 0 ∨ y = 1 ∨ y = 2 ∨ y = 3 ∨ y = 4 ∨ y = 5 ∨ y = 6 ∨ y = 7 ∨ y = 8 := by omega
  rcases this with rfl | rfl | rfl | rfl | rfl | rfl | rfl | rfl | rfl <;> exact ⟨rfl, txt_ok _ (by simp [TXT])⟩
theorem mod9 (x : Int) : binW .mod (.int x) (.int 9) = some (.int (x % 9)) := rfl
def Texts (many : Nat) (w : W) : Prop := ∃ xs : List PySem.Str, w = .lst (xs.map W.str) ∧ xs.length = many ∧ ∀ x ∈ xs, okT x
theorem ev_texts {n : Nat} (hn : 4 ≤ n) {h : Hq} {i many : Nat} {M : Int} (s : Src h i) (hM : M = many) (hm : many ≤ 20) :
    Sat ((gam P n).fn "_law_texts" [.ref i, .int M] h) (fun w h' => Texts many w ∧ Eff i h h') := by
  refine Sat.callE (Q := Texts many) (by omega) LibG._law_texts (by rfl) ?_
  have hlt := s.lt
  obtain ⟨_, h1, e1, ⟨a, rfl, ha⟩, he1⟩ := (ev_draw (P := P) (n := n - 1) (by omega) (m := 9) s (by omega) (by omega)).ex
  obtain ⟨_, h2, e2, hw, he2⟩ := (ev_of (P := P) (n := n - 1) (by omega) (ws := [W.int 1, .int 2, .int 4, .int 5, .int 7, .int 8]) he1.src (by decide) (by decide) (by intro w hw n; simp at hw; rcases hw with rfl | rfl | rfl | rfl | rfl | rfl <;> rfl)).ex
  obtain ⟨b, hb, rfl⟩ := idx_steps9 hw
  have hb2 : b < 1000 := (show ∀ b ∈ Steps9, b < 1000 by decide) b hb
  obtain ⟨A, hA⟩ : ∃ A : Int, A = a := ⟨_, rfl⟩
  obtain ⟨B, hB⟩ : ∃ B : Int, B = b := ⟨_, rfl⟩
  rw [← hA] at e1
  rw [← hB] at e2
  have e2' : (gam P (n - 1)).fn "_law_of" [.ref i, .lst [W.int 1, .int 2, .int 4, .int 5, .int 7, .int 8]] h1 = .ok (.int B) h2 := e2
  have ir := Rng.items (m := many) (by omega)
  rw [← hM] at ir
  have inner : ∀ K : Int, lcF (gam P (n - 1)) (.name 5) [5] .no (.idx (.var 2) (.bin .mod (.bin .add (.var 3) (.bin .mul (.var 4) (.var 5))) (.cst (.int 9)))) [some (.ref i), some (.int M), some (.lst [W.str "", .str "a", .str "b", .str "c", .str "on", .str "off", .str "zzzzzzzzzzzz", .str "d", .str "yes"]), some (.int A), some (.int B), none] (.int K) h2 = .ok (some (.str (txtAt (A + B * K)))) h2 := by
    intro K
    have m1 : binW .mul (.int B) (.int K) = some (.int (B * K)) := mulW (by omega) (by omega)
    simp [lcF, wipeS, m1, addW, mod9, (txt_at _).1]
  have lc := lc_enc (enc := fun (i : Nat) => W.int (i : Int)) (g := fun t => W.str (txtAt (A + B * (t : Int)))) (l := List.range' 0 (many - 0)) (fun t _ => inner (t : Int)) (line_le (by simp; omega))
  have er : (List.range' 0 (many - 0)).map (fun (i : Nat) => W.int (i : Int)) = Rng 0 many := rfl
  rw [er] at lc
  obtain ⟨xs, hxs⟩ : ∃ xs : List PySem.Str, xs = (List.range' 0 (many - 0)).map fun (t : Nat) => txtAt (A + B * (t : Int)) := ⟨_, rfl⟩
  have hw : (List.range' 0 (many - 0)).map (fun (t : Nat) => W.str (txtAt (A + B * (t : Int)))) = xs.map W.str := by rw [hxs, List.map_map]; rfl
  rw [hw] at lc
  simp [fd__law_texts, b__law_texts, e1, e2', ir, lc]
  refine endE0 (he1.trans he2) ⟨xs, rfl, by rw [hxs]; simp, fun x hx => ?_⟩ fun n => fitsL_strs n xs
  rw [hxs] at hx
  obtain ⟨t, _, rfl⟩ := List.mem_map.mp hx
  exact (txt_at _).2
end Hd
set_option Elab.async false
set_option linter.all false
set_option maxRecDepth 100000
set_option maxHeartbeats 4000000
namespace Hd
open PySem PySem.Spec L2 MP
variable {P : MP.Prog} [LibG P]
theorem cut_take (ws : List W) (k : Nat) : cutW ws none (some (k : Int)) = ws.take k := by
  unfold cutW
  rw [HT.sIx_none, HT.sIx_nat]
  simp [List.take_eq_take_iff]
theorem cut_drop (ws : List W) (k : Nat) : cutW ws (some (k : Int)) none = ws.drop k := by
  unfold cutW
  rw [HT.sIx_none, HT.sIx_nat]
  rcases Nat.le_total k ws.length with h | h
  · rw [Nat.min_eq_left h, List.take_of_length_le (by simp)]
  · rw [Nat.min_eq_right h, List.drop_of_length_le (Nat.le_refl _), List.drop_of_length_le h]; simp
theorem sort_strs (l : List PySem.Str) : sortOk (l.map W.str) = true ∧ sortW (l.map W.str) = (l.mergeSort strLe).map W.str := by
  unfold sortOk sortW
  rw [strs_map']
  exact ⟨rfl, rfl⟩
theorem strLt_of {a b : PySem.Str} (h : strLe a b = true) (ne : a ≠ b) : strLt a b = true := by
  unfold strLe at h
  unfold strLt
  have h := of_decide_eq_true h
  refine decide_eq_true ?_
  rcases Decidable.em (a.cps.toList < b.cps.toList) with z | z
  · exact z
  · exact (ne (PySem.W.str_of_cps (List.le_antisymm h (List.not_lt.mp z)))).elim
theorem sort_asc {l : List PySem.Str} (nd : l.Nodup) : (l.mergeSort strLe).Pairwise fun a b => strLt a b = true := by
  have tr : ∀ a b c : PySem.Str, strLe a b = true → strLe b c = true → strLe a c = true := fun _ _ _ => strLe_trans
  have h1 := List.pairwise_mergeSort tr strLe_total l
  have h2 : (l.mergeSort strLe).Nodup := (List.mergeSort_perm l strLe).nodup_iff.mpr nd
  exact h1.imp₂ (fun a b h ne => strLt_of h ne) h2
theorem asc_B : ∀ {l : List PySem.Str}, (l.Pairwise fun a b => strLt a b = true) → ascB l = true
  | [], _ => rfl
  | [a], _ => rfl
  | a :: b :: l, h => by
    have h1 := asc_B (List.Pairwise.of_cons h)
    have h2 : strLt a b = true := (List.pairwise_cons.mp h).1 b (by simp)
    unfold ascB at *
    simp only [List.tail_cons, List.zip_cons_cons, List.all_cons, h2, Bool.true_and] at *
    exact h1
def wW (fs ts : List PySem.Str) (sv : List SV) : W := .dct [(.inr "files", .lst (fs.map W.str)), (.inr "texts", .lst (ts.map W.str)), (.inr "services", .tup (sv.map encS))]
structure WOk (F T S : Nat) (fs ts : List PySem.Str) (sv : List SV) : Prop where
  f : fs.length = F
  fok : ∀ x ∈ fs, okF x
  t : ts.length = T
  tok : ∀ x ∈ ts, okT x
  s : sv.length = S
  nd : (sv.map (·.1)).Nodup
  sok : ∀ p ∈ sv, okF p.1 ∧ (∀ x ∈ p.2, x ∈ fs) ∧ p.2.length ≤ F ∧ p.2.Pairwise fun a b => strLt a b = true
def reads33 : E := .lc [("file", 8)] (.name 8) .one (.cons (.srt false (.slc (.var 4) .no (.yes (.var 1)))) .nil) (.yes (.cmp .gt (.call "_law_draw" (.cons (.var 0) (.cons (.cst (.int 3)) .nil))) (.cst (.int 0)))) (.var 8)
def St33 (i : Nat) (F T S : Int) (xs : List PySem.Str) (L : Nat) (a b c : Option W) : Sto := [some (.ref i), some (.int F), some (.int T), some (.int S), some (.lst (xs.map W.str)), some (.ref L), a, b, c]
def OutLc (i : Nat) (h0 : Hq) (l : Hq) (fs : List PySem.Str) (ws : List W) (h' : Hq) : Prop := ∃ ac h1, ws = ac.map W.str ∧ List.Sublist ac fs ∧ Eff i h0 h1 ∧ h' = h1 ++ l
def InvLc (i : Nat) (h0 : Hq) (l : Hq) (fs : List PySem.Str) (ws acc : List W) (h' : Hq) : Prop := ∃ rest ac h1, ws = rest.map W.str ∧ acc = ac.map W.str ∧ List.Sublist (ac ++ rest) fs ∧ Eff i h0 h1 ∧ h' = h1 ++ l
theorem ev_reads {n : Nat} (hn : 2 ≤ n) {i : Nat} {F T S : Int} {xs : List PySem.Str} {L : Nat} {a b c : Option W} {h0 l : Hq} (s : Src h0 i) {fs : List PySem.Str} (hf : fs.length ≤ 1000) :
    Sat (lcLoop (lcF (gam P n) (.name 8) [8] (.yes (.cmp .gt (.call "_law_draw" (.cons (.var 0) (.cons (.cst (.int 3)) .nil))) (.cst (.int 0)))) (.var 8) (St33 i F T S xs L a b c)) (fs.map W.str) [] (h0 ++ l)) (OutLc i h0 l fs) := by
  refine Sat.lc (InvLc i h0 l fs) (fun w ws acc h' z => ?_) (fun acc h' z => ?_) ⟨fs, [], h0, rfl, rfl, by simp, s.eff, rfl⟩
  · obtain ⟨rest, ac, h1, e1, e2, e3, e4, e5⟩ := z
    cases rest with
    | nil => cases e1
    | cons x rest =>
      rw [List.map_cons] at e1
      cases e1
      subst e2 e5
      obtain ⟨_, _, d1, ⟨r, rfl, hr⟩, h2, rfl, he2⟩ := (Sat.app (ev_draw (P := P) (n := n) (by omega) (m := 3) (e4.src.app (l := l)) (by omega) (by omega)) e4.src.lt).ex
      have hl : ac.length < MP.line := by
        have := e3.length_le
        simp at this
        unfold MP.line; omega
      obtain ⟨K, hK⟩ : ∃ K : Int, K = r := ⟨_, rfl⟩
      rw [← hK] at d1
      unfold St33
      by_cases hc : 0 < K
      · simp [lcF, wipeS, d1, cmpW, hc, hl]
        exact ⟨rest, ac ++ [x], h2, rfl, by simp, by simpa using e3, e4.trans he2, rfl⟩
      · simp [lcF, wipeS, d1, cmpW, hc]
        exact ⟨rest, ac, h2, rfl, rfl, (List.Sublist.append_left (List.sublist_cons_self x rest) ac).trans e3, e4.trans he2, rfl⟩
  · obtain ⟨rest, ac, h1, e1, e2, e3, e4, e5⟩ := z
    cases rest with
    | cons x rest => cases e1
    | nil => exact ⟨ac, h1, e2, by simpa using e3, e4, e5⟩
end Hd
set_option Elab.async false
set_option linter.all false
set_option maxRecDepth 100000
set_option maxHeartbeats 4000000
namespace Hd
open PySem PySem.Spec L2 MP
variable {P : MP.Prog} [LibG P]
def Inv33 (i : Nat) (F T S : Int) (xs : List PySem.Str) (L : Nat) (h0 : Hq) (fs : List PySem.Str) (pre : List PySem.Str) (s' : Sto) (h' : Hq) : Prop := ∃ (sv : List SV) (h1 : Hq) (a b c : Option W), s' = St33 i F T S xs L a b c ∧ Eff i h0 h1 ∧ h' = h1 ++ [.lst (sv.map encS)] ∧ sv.map (·.1) = pre ∧ ∀ p ∈ sv, List.Sublist p.2 fs
theorem body33_0 {n : Nat} (hn : 2 ≤ n) {i f : Nat} {F T S : Int} {xs : List PySem.Str} {L : Nat} {b c : Option W} {h0 h1 : Hq} {sv : List SV} {nm : PySem.Str} {pre : List PySem.Str} (he : Eff i h0 h1) (hL : h1.length = L) {ys : List PySem.Str} (hF : F = f) (hy : ys = xs.take f) (hx : xs.length ≤ 1000) (hs : sv.length ≤ 1000) (hp : sv.map (·.1) = pre) (hsv : ∀ p ∈ sv, List.Sublist p.2 (ys.mergeSort strLe)) {TT : W → Hq → Prop} :
    SatS (evSs (gam P n) b__law_world_0 (St33 i F T S xs L (some (.str nm)) b c) (h1 ++ [.lst (sv.map encS)])) (Inv33 i F T S xs L h0 (ys.mergeSort strLe) (pre ++ [nm])) TT := by
  have m1 : slcW (.lst (xs.map W.str)) none (some F) = some (.lst (ys.map W.str)) := by
    rw [hy, hF, List.map_take]; exact congrArg (fun z => some (W.lst z)) (cut_take _ _)
  obtain ⟨m2, m3⟩ := sort_strs ys
  obtain ⟨ws, h', e1, ac, h2, rfl, hsub, he2, rfl⟩ := (ev_reads (P := P) (n := n) hn (i := i) (F := F) (T := T) (S := S) (xs := xs) (L := L) (a := some (.str nm)) (b := b) (c := c) (h0 := h1) (l := [.lst (sv.map encS)]) he.src (fs := ys.mergeSort strLe) (by rw [List.length_mergeSort, hy]; simp; omega)).ex
  have hl2 : h2.length = L := he2.len.trans hL
  have g : ∀ (l : Hq) (o : O), l.length = L → (l ++ [o])[L]? = some o := fun l o e => by rw [← e]; simp
  have g2 : ∀ (l : Hq) (o p : O), l.length = L → (l ++ [o]).set L p = l ++ [p] := fun l o p e => by rw [← e]; simp
  have xl : sv.length < MP.line := by unfold MP.line; omega
  unfold St33 at e1 ⊢
  simp [b__law_world_0, m1, m2, m3, itemsW, srcW, e1, bmOk, bmW, b1W, g _ _ hl2, g2 _ _ _ hl2, xl]
  exact ⟨sv ++ [(nm, ac)], h2, some (.str nm), some (.lst (ac.map W.str)), c, rfl, he.trans he2, by simp [encS], by simp [hp], fun p hp => by
    rcases List.mem_append.mp hp with hp | hp
    · exact hsv p hp
    · simp at hp; subst hp; exact hsub⟩
def World (F T S : Nat) (w : W) : Prop := ∃ fs ts sv, w = wW fs ts sv ∧ WOk F T S fs ts sv
theorem fits_world (n : Nat) (fs ts : List PySem.Str) (sv : List SV) : W.fits n (wW fs ts sv) = true := by
  have h1 := fitsL_strs n fs
  have h2 := fitsL_strs n ts
  have h3 : W.fits n (.tup (sv.map encS)) = true := by
    unfold W.fits
    induction sv with
    | nil => rfl
    | cons p sv ih =>
      have h4 := fits_strs n p.2
      unfold W.fits at h4
      rw [List.map_cons]
      unfold W.fitsL
      rw [ih, encS]
      simp only [W.fits, W.fitsL, h4, Bool.true_and, Bool.and_true]
  simp only [wW, W.fits, W.fitsK]
  simp only [W.fits] at h1 h2 h3
  rw [h1, h2, h3]; rfl
end Hd
set_option Elab.async false
set_option linter.all false
set_option maxRecDepth 100000
set_option maxHeartbeats 4000000
namespace Hd
open PySem PySem.Spec L2 MP
variable {P : MP.Prog} [LibG P]
theorem loop33 {n : Nat} (hn : 2 ≤ n) {i f : Nat} {F T S : Int} {xs ys zs : List PySem.Str} {L : Nat} {h0 : Hq} (s : Src h0 i) (hL : h0.length = L) (hF : F = f) (hy : ys = xs.take f) (hx : xs.length ≤ 1000) (hz : zs.length ≤ 1000) {TT : W → Hq → Prop} :
    SatS (forLoop (.name 6) (fun s h => evSs (gam P n) b__law_world_0 s h) (zs.map W.str) (St33 i F T S xs L none none none) (h0 ++ [.lst []])) (Inv33 i F T S xs L h0 (ys.mergeSort strLe) zs) TT := by
  refine SatS.for_ (fun ws s' h' => ∃ pre rest, zs = pre ++ rest ∧ ws = rest.map W.str ∧ Inv33 i F T S xs L h0 (ys.mergeSort strLe) pre s' h') (fun w ws s' h' z => ?_) (fun s' h' z => ?_) ⟨[], zs, rfl, rfl, [], h0, none, none, none, rfl, s.eff, rfl, rfl, fun p hp => by simp at hp⟩
  · obtain ⟨pre, rest, e1, e2, sv, h1, a, b, c, e3, e4, e5, e6, e7⟩ := z
    cases rest with
    | nil => cases e2
    | cons x rest =>
      rw [List.map_cons] at e2
      cases e2
      subst e3 e5
      refine ⟨St33 i F T S xs L (some (.str x)) b c, by unfold St33; simp, ?_⟩
      have hlen : sv.length ≤ 1000 := by
        have := congrArg List.length e6
        have h2 := congrArg List.length e1
        simp at this h2
        omega
      refine (body33_0 (P := P) (n := n) hn (TT := TT) e4 (e4.len.trans hL) hF hy hx hlen e6 e7).imp (fun s' h' q => ⟨pre ++ [x], rest, by simp [e1], rfl, q⟩) fun _ _ z => z
  · obtain ⟨pre, rest, e1, e2, e3⟩ := z
    cases rest with
    | cons x rest => cases e2
    | nil =>
      rw [List.append_nil] at e1
      rw [e1]; exact e3
theorem ev_world {n : Nat} (hn : 5 ≤ n) {h : Hq} {i f t k : Nat} {F T S : Int} (s : Src h i) (hF : F = f) (hT : T = t) (hS : S = k) (hf : f + k ≤ 20) (ht : t ≤ 20) :
    Sat ((gam P n).fn "_law_world" [.ref i, .int F, .int T, .int S] h) (fun w h' => World f t k w ∧ Eff i h h') := by
  refine Sat.callE (Q := World f t k) (by omega) LibG._law_world (by rfl) ?_
  have hlt := s.lt
  obtain ⟨_, h1, e1, ⟨xs, rfl, hxl, hxn, hxo⟩, he1⟩ := (ev_names (P := P) (n := n - 1) (by omega) (many := f + k) (M := F + S) s (by omega) (by omega)).ex
  obtain ⟨ys, hy⟩ : ∃ ys, ys = xs.take f := ⟨_, rfl⟩
  obtain ⟨zs, hz⟩ : ∃ zs, zs = xs.drop f := ⟨_, rfl⟩
  have m1 : slcW (.lst (xs.map W.str)) none (some F) = some (.lst (ys.map W.str)) := by
    rw [hF, hy, List.map_take]; exact congrArg (fun z => some (W.lst z)) (cut_take _ _)
  have m4 : slcW (.lst (xs.map W.str)) (some F) none = some (.lst (zs.map W.str)) := by
    rw [hF, hz, List.map_drop]; exact congrArg (fun z => some (W.lst z)) (cut_drop _ _)
  obtain ⟨m2, m3⟩ := sort_strs ys
  have hz2 : zs.length ≤ 1000 := by rw [hz]; simp; omega
  have lp := loop33 (P := P) (n := n - 1) (by omega) (F := F) (T := T) (S := S) (TT := EndE i h (World f t k)) he1.src rfl hF hy (by omega) hz2
  unfold St33 at lp
  simp [fd__law_world, b__law_world, e1, m4, addW, itemsW, srcW]
  refine SatS.seq (lp.imp (fun s' h' q => ?_) fun _ _ z => z)
  obtain ⟨sv, h2, a, b, c, q1, q2, q3, q4, q5⟩ := q
  subst q1 q3
  obtain ⟨_, _, e2, ⟨ts, rfl, htl, hto⟩, h3, rfl, he3⟩ := (Sat.app (ev_texts (P := P) (n := n - 1) (by omega) (many := t) (M := T) (q2.src.app (l := [.lst (sv.map encS)])) hT ht) q2.src.lt).ex
  have hl3 : h3.length = h1.length := he3.len.trans q2.len
  have g : (h3 ++ [O.lst (sv.map encS)])[h1.length]? = some (O.lst (sv.map encS)) := by rw [← hl3]; simp
  unfold St33
  simp [m1, m2, m3, e2, b1W, vw, g]
  have ylen : ys.length = f := by rw [hy]; simp; omega
  have ysub : List.Sublist ys xs := by rw [hy]; exact List.take_sublist _ _
  have zsub : List.Sublist zs xs := by rw [hz]; exact List.drop_sublist _ _
  have sfl : (ys.mergeSort strLe).length = f := by rw [List.length_mergeSort, ylen]
  have smem : ∀ x, x ∈ ys.mergeSort strLe ↔ x ∈ ys := fun x => (List.mergeSort_perm ys strLe).mem_iff
  have sasc := sort_asc (l := ys) (ysub.nodup hxn)
  refine endE ((he1.trans q2).trans he3) ⟨ys.mergeSort strLe, ts, sv, rfl, sfl, fun x hx => hxo x (ysub.subset ((smem x).mp hx)), htl, hto, ?_, ?_, fun p hp => ⟨hxo _ (zsub.subset ?_), fun x hx => (q5 p hp).subset hx, ?_, sasc.sublist (q5 p hp)⟩⟩ fun n => fits_world n _ _ _
  · have := congrArg List.length q4
    rw [hz] at this
    simp at this; omega
  · rw [q4]; exact zsub.nodup hxn
  · rw [← q4]; exact List.mem_map.mpr ⟨p, hp, rfl⟩
  · rw [← sfl]; exact (q5 p hp).length_le
end Hd
set_option Elab.async false
set_option linter.all false
set_option maxRecDepth 100000
set_option maxHeartbeats 4000000
namespace Hd
open PySem PySem.Spec L2 MP
variable {P : MP.Prog} [LibG P]
section
variable {fs ts : List PySem.Str} {sv : List SV}
theorem w_files : idxW (wW fs ts sv) (.str "files") = some (.lst (fs.map W.str)) := by simp [wW, idxW, valW]
theorem w_texts : idxW (wW fs ts sv) (.str "texts") = some (.lst (ts.map W.str)) := by simp [wW, idxW, valW]
theorem w_serv : idxW (wW fs ts sv) (.str "services") = some (.tup (sv.map encS)) := by simp [wW, idxW, valW]
theorem w_vw (h : Hq) : vw h (wW fs ts sv) = wW fs ts sv := rfl
theorem it_file {names : List PySem.Str} {x : PySem.Str} (h : okF x) : It.ok names "file" (.s x) = true := by
  obtain ⟨h1, h2, h3⟩ := h
  have : decide (x.length ≤ 1000) = true := decide_eq_true (by omega)
  simp [It.ok, this, h1, h2]
theorem it_text {names : List PySem.Str} {x : PySem.Str} (h : okT x) : It.ok names "text" (.s x) = true := by
  obtain ⟨h1, h2, h3⟩ := h
  have : decide (x.length ≤ 1000) = true := decide_eq_true (by omega)
  simp [It.ok, this, h1, h2]
theorem it_serv {names : List PySem.Str} {x : PySem.Str} (h : okF x) (hm : x ∈ names) : It.ok names "service" (.s x) = true := by
  obtain ⟨h1, h2, h3⟩ := h
  have : decide (x.length ≤ 1000) = true := decide_eq_true (by omega)
  have ne : ("service" = ("text" : PySem.Str)) = False := by simp
  simp [It.ok, this, h1, h2, hm]
theorem of_strs {n : Nat} (hn : 2 ≤ n) {h : Hq} {i : Nat} {l : List PySem.Str} (s : Src h i) (h1 : 0 < l.length) (h2 : l.length < 1000) :
    Sat ((gam P n).fn "_law_of" [.ref i, .lst (l.map W.str)] h) (fun w h' => (∃ x ∈ l, w = .str x) ∧ Eff i h h') :=
  (ev_of hn (ws := l.map W.str) s (by simpa using h1) (by simpa using h2) (fun w hw n => by
    obtain ⟨x, _, rfl⟩ := List.mem_map.mp hw; rfl)).imp fun w h' z => ⟨by
    obtain ⟨x, hx, e⟩ := List.mem_map.mp z.1
    exact ⟨x, hx, e.symm⟩, z.2⟩
def DeedR (fs ts : List PySem.Str) (sv : List SV) (w : W) : Prop := ∃ d : Deed, w = d.w ∧ d.ok (sv.map (·.1)) ∧ (∀ x ∈ d.fs, x ∈ fs) ∧ ∀ x ∈ d.ts, x ∈ ts
theorem Deed.fits (d : Deed) (n : Nat) : W.fits n d.w = true := by cases d <;> rfl
theorem Fact.fits (d : Fact) (n : Nat) : W.fits n d.w = true := by cases d <;> rfl
theorem eqv_int (i j : Int) : PyData.eqv (W.int i).d (W.int j).d = decide (i = j) := by
  simp only [W.d, PyData.eqv]
  rw [Bool.eq_iff_iff]; simp
theorem eqv_nil {ws : List W} : PyData.eqv (W.lst ws).d (W.lst []).d = ws.isEmpty := by
  cases ws with
  | nil => rfl
  | cons a l => simp [W.d, W.ds, PyData.eqv, PyData.eqvAll]
theorem ev_deed {n F T S : Nat} (hn : 4 ≤ n) {h : Hq} {i : Nat} (s : Src h i) (o : WOk F T S fs ts sv) (hF : 0 < F) (hT : 0 < T) (hF2 : F ≤ 100) (hT2 : T ≤ 100) (hS : S ≤ 100) :
    Sat ((gam P n).fn "_law_deed" [.ref i, wW fs ts sv] h) (fun w h' => DeedR fs ts sv w ∧ Eff i h h') := by
  refine Sat.callE (Q := DeedR fs ts sv) (by omega) LibG._law_deed (by rfl) ?_
  have hlt := s.lt
  have nmOk : ∀ x ∈ sv.map (·.1), okF x := fun x hx => by
    obtain ⟨p, hp, rfl⟩ := List.mem_map.mp hx; exact (o.sok p hp).1
  have el := lc_enc (f := lcF (gam P (n - 1)) (.tup (.cons (.name 5) (.cons (.name 6) .nil))) [5, 6] .no (.var 5) [some (.ref i), some (wW fs ts sv), none, none, none, none, none]) (enc := encS) (g := fun p => W.str p.1) (h := h) (l := sv) (fun p hp => by
      simp [lcF, wipeS, encS]) (line_le (by rw [o.s]; omega))
  obtain ⟨nms, hnms⟩ : ∃ nms, nms = sv.map (·.1) := ⟨_, rfl⟩
  have el2 : sv.map (fun p => W.str p.1) = nms.map W.str := by rw [hnms, List.map_map]; rfl
  rw [el2] at el
  rw [← hnms] at nmOk
  obtain ⟨_, h1, e1, ⟨a, rfl, ha⟩, he1⟩ := (ev_draw (P := P) (n := n - 1) (by omega) (m := 8) s (by omega) (by omega)).ex
  obtain ⟨_, h2, e2, ⟨f, hf, rfl⟩, he2⟩ := (of_strs (P := P) (n := n - 1) (by omega) (l := fs) he1.src (by rw [o.f]; omega) (by rw [o.f]; omega)).ex
  obtain ⟨_, h3, e3, ⟨g, hg, rfl⟩, he3⟩ := (of_strs (P := P) (n := n - 1) (by omega) (l := fs) he2.src (by rw [o.f]; omega) (by rw [o.f]; omega)).ex
  obtain ⟨_, h4, e4, ⟨t, ht, rfl⟩, he4⟩ := (of_strs (P := P) (n := n - 1) (by omega) (l := ts) he2.src (by rw [o.t]; omega) (by rw [o.t]; omega)).ex
  obtain ⟨K, hK⟩ : ∃ K : Int, K = a := ⟨_, rfl⟩
  rw [← hK] at e1
  have sh1 : (W.lst (nms.map W.str)).shp = true := shp_strs fun x hx => (nmOk x hx).2.1
  have sh2 : (W.lst []).shp = true := rfl
  have fin : ∀ (d : Deed) (h5 : Hq), Eff i h h5 → d.ok (sv.map (·.1)) → (∀ x ∈ d.fs, x ∈ fs) → (∀ x ∈ d.ts, x ∈ ts) → EndE i h (DeedR fs ts sv) d.w h5 := fun d h5 q1 q2 q3 q4 => endE0 q1 ⟨d, rfl, q2, q3, q4⟩ fun n => d.fits n
  have f_ok : ∀ x ∈ fs, It.ok (sv.map (·.1)) "file" (.s x) = true := fun x hx => it_file (o.fok x hx)
  have sN : nms = [] ∨ ∃ x l, nms = x :: l := by cases nms <;> simp
  have rest : ¬ (K = 0 ∧ nms ≠ []) → (decide (K = 0) = false) ∨ (K = 0 ∧ nms = []) := by
    intro hz
    by_cases k0 : K = 0
    · exact .inr ⟨k0, by by_cases hn : nms = []; exact hn; exact (hz ⟨k0, hn⟩).elim⟩
    · exact .inl (decide_eq_false k0)
  by_cases hz : K = 0 ∧ nms ≠ []
  · obtain ⟨k0, hne⟩ := hz
    have hp : 0 < nms.length := List.length_pos_iff.mpr hne
    have hle : nms.length < 1000 := by rw [hnms]; simp; rw [o.s]; omega
    have ie : nms.isEmpty = false := by cases nms with
      | nil => exact (hne rfl).elim
      | cons x l => rfl
    obtain ⟨_, h5, e5, ⟨x, hx, rfl⟩, he5⟩ := (of_strs (P := P) (n := n - 1) (by omega) (l := nms) he2.src hp hle).ex
    have := fin (.restart x) h5 ((he1.trans he2).trans he5) (by
      intro p hp; simp [Deed.ks, Deed.its] at hp; subst hp
      exact it_serv (nmOk x hx) (hnms ▸ hx)) (by simp [Deed.fs]) (by simp [Deed.ts])
    simp [fd__law_deed, b__law_deed, w_serv, w_vw, itemsW, srcW, el, e1, w_files, e2, cmpW, shp_int, eqv_int, k0, sh1, sh2, eqv_nil, ie, e5]
    exact this
  · have hc := rest hz
    clear rest hz
    by_cases k1 : K = 1
    · have := fin .flush h2 (he1.trans he2) (by intro p hp; simp [Deed.ks, Deed.its] at hp) (by simp [Deed.fs]) (by simp [Deed.ts])
      simp [fd__law_deed, b__law_deed, w_serv, w_vw, itemsW, srcW, el, e1, w_files, e2, cmpW, shp_int, eqv_int, k1]
      exact this
    · by_cases k2 : K = 2
      · have := fin (.drop f) h2 (he1.trans he2) (by intro p hp; simp [Deed.ks, Deed.its] at hp; subst hp; exact f_ok f hf) (by simpa [Deed.fs] using hf) (by simp [Deed.ts])
        simp [fd__law_deed, b__law_deed, w_serv, w_vw, itemsW, srcW, el, e1, w_files, e2, cmpW, shp_int, eqv_int, k2]
        exact this
      · by_cases k5 : K < 5
        · have := fin (.copy f g) h3 ((he1.trans he2).trans he3) (by intro p hp; simp [Deed.ks, Deed.its] at hp; rcases hp with rfl | rfl; exact f_ok f hf; exact f_ok g hg) (by simp [Deed.fs, hf, hg]) (by simp [Deed.ts])
          rcases hc with z | ⟨z, z2⟩
          · simp [fd__law_deed, b__law_deed, w_serv, w_vw, itemsW, srcW, el, e1, w_files, e2, cmpW, shp_int, eqv_int, z, k1, k2, k5, e3]
            exact this
          · subst z2
            simp only [List.map_nil] at el
            simp [fd__law_deed, b__law_deed, w_serv, w_vw, itemsW, srcW, el, e1, w_files, e2, cmpW, shp_int, eqv_int, z, e3, sh2, eqv_nil]
            exact this
        · have k0 : ¬ K = 0 := by omega
          have := fin (.put f t) h4 ((he1.trans he2).trans he4) (by intro p hp; simp [Deed.ks, Deed.its] at hp; rcases hp with rfl | rfl; exact f_ok f hf; exact it_text (o.tok t ht)) (by simp [Deed.fs, hf]) (by simp [Deed.ts, ht])
          simp [fd__law_deed, b__law_deed, w_serv, w_vw, itemsW, srcW, el, e1, w_files, w_texts, e2, cmpW, shp_int, eqv_int, k0, k1, k2, k5, e4]
          exact this
end
end Hd
set_option Elab.async false
set_option linter.all false
set_option maxRecDepth 100000
set_option maxHeartbeats 4000000
namespace Hd
open PySem PySem.Spec L2 MP
variable {P : MP.Prog} [LibG P]
section
variable {fs ts : List PySem.Str} {sv : List SV} {sts : List Step}
def FactR (fs ts : List PySem.Str) (sv : List SV) (sts : List Step) (w : W) : Prop := ∃ d : Fact, w = d.w ∧ d.ok (sv.map (·.1)) ∧ (∀ x ∈ d.fs, x ∈ fs) ∧ (∀ x ∈ d.ts, x ∈ ts) ∧ ∀ i, d = .changed i → ∃ s', sts[i]? = some s' ∧ s'.deed.isFl = false
theorem shp_ints {α : Type} (f : α → Int) (l : List α) : (W.lst (l.map fun a => W.int (f a))).shp = true := by
  have h1 : PyData.canLayAll0 (W.ds (l.map fun a => W.int (f a))) = true := by
    induction l with
    | nil => rfl
    | cons a l ih => simp only [List.map_cons, W.ds, PyData.canLayAll0, ih, W.d]; rfl
  have h2 : PyData.depthAll (W.ds (l.map fun a => W.int (f a))) ≤ 1 := by
    clear h1
    induction l with
    | nil => simp [W.ds, PyData.depthAll]
    | cons a l ih => simp only [List.map_cons, W.ds, PyData.depthAll, W.d, PyData.depth]; omega
  unfold W.shp SeqAt.shaped
  simp only [W.d, PyData.canLay0, h1, PyData.depth, Bool.true_and]
  exact decide_eq_true (by omega)
theorem shp_fl : (W.tup [.str "flush"]).shp = true := by simp [W.shp, SeqAt.shaped, W.d, W.ds, PyData.canLay0, PyData.canLayAll0, PyData.depth, PyData.depthAll]
theorem ev_fact {n F T S : Nat} (hn : 4 ≤ n) {h : Hq} {i : Nat} (s : Src h i) (o : WOk F T S fs ts sv) (hF : 0 < F) (hT : 0 < T) (hF2 : F ≤ 100) (hT2 : T ≤ 100) (hst : sts.length ≤ 24) (hd : ∀ s ∈ sts, s.deed.ok (sv.map (·.1))) :
    Sat ((gam P n).fn "_law_fact" [.ref i, wW fs ts sv, .tup (sts.map Step.w)] h) (fun w h' => FactR fs ts sv sts w ∧ Eff i h h') := by
  refine Sat.callE (Q := FactR fs ts sv sts) (by omega) LibG._law_fact (by rfl) ?_
  have hlt := s.lt
  have el := lc_filter (f := lcF (gam P (n - 1)) (.tup (.cons (.name 6) (.cons (.name 7) .nil))) [6, 7] (.yes (.cmp .ne (.idx (.var 7) (.cst (.int 0))) (.tup (.cons (.cst (.str "flush")) .nil)))) (.var 6) [some (.ref i), some (wW fs ts sv), some (.tup (sts.map Step.w)), none, none, none, none, none]) (enc := fun p : Step × Nat => W.tup [.int p.2, p.1.w]) (p := fun p => !p.1.deed.isFl) (g := fun p => W.int p.2) (h := h) (l := sts.zipIdx) (fun p hp => by
      have hm : p.1 ∈ sts := by
        obtain ⟨st, k⟩ := p
        exact (List.mem_zipIdx hp).2.2 ▸ List.getElem_mem _
      have sd := Deed.shp (hd _ hm)
      have vd : ∀ h, vw h p.1.deed.w = p.1.deed.w := fun _ => rfl
      cases hf : p.1.deed.isFl <;> simp [lcF, wipeS, Step.w, idxW, atI, ixN, cmpW, sd, vd, shp_fl, Deed.eq_fl, hf]) (line_le (by simp; omega))
  obtain ⟨rw_, hrw⟩ : ∃ rw_, rw_ = ((sts.zipIdx.filter fun p => !p.1.deed.isFl).map fun p => W.int (p.2 : Int)) := ⟨_, rfl⟩
  rw [← hrw] at el
  have ez : (sts.map Step.w).zipIdx.map (fun p => W.tup [.int p.2, p.1]) = sts.zipIdx.map fun p : Step × Nat => W.tup [.int p.2, p.1.w] := by
    rw [List.zipIdx_map, List.map_map]; rfl
  have sh1 : (W.lst rw_).shp = true := by rw [hrw]; exact shp_ints (fun p : Step × Nat => (p.2 : Int)) _
  have hmem : ∀ w ∈ rw_, ∃ k s', w = .int ((k : Nat) : Int) ∧ sts[k]? = some s' ∧ s'.deed.isFl = false := by
    intro w hw
    rw [hrw] at hw
    obtain ⟨p, hp, rfl⟩ := List.mem_map.mp hw
    obtain ⟨h1, h2⟩ := List.mem_filter.mp hp
    refine ⟨p.2, p.1, rfl, ?_, by simpa using h2⟩
    have := List.mem_zipIdx_iff_getElem?.mp h1
    simpa using this
  have hlen : rw_.length < 1000 := by
    rw [hrw, List.length_map]
    have := List.length_filter_le (fun p : Step × Nat => !p.1.deed.isFl) sts.zipIdx
    simp at this
    omega
  obtain ⟨_, h1, e1, ⟨a, rfl, ha⟩, he1⟩ := (ev_draw (P := P) (n := n - 1) (by omega) (m := 5) s (by omega) (by omega)).ex
  obtain ⟨_, h2, e2, ⟨f, hf, rfl⟩, he2⟩ := (of_strs (P := P) (n := n - 1) (by omega) (l := fs) he1.src (by rw [o.f]; omega) (by rw [o.f]; omega)).ex
  obtain ⟨_, h3, e3, ⟨g, hg, rfl⟩, he3⟩ := (of_strs (P := P) (n := n - 1) (by omega) (l := fs) he2.src (by rw [o.f]; omega) (by rw [o.f]; omega)).ex
  obtain ⟨_, h4, e4, ⟨t, ht, rfl⟩, he4⟩ := (of_strs (P := P) (n := n - 1) (by omega) (l := ts) he2.src (by rw [o.t]; omega) (by rw [o.t]; omega)).ex
  obtain ⟨K, hK⟩ : ∃ K : Int, K = a := ⟨_, rfl⟩
  rw [← hK] at e1
  have sh2 : (W.lst []).shp = true := rfl
  have fin : ∀ (d : Fact) (h5 : Hq), Eff i h h5 → d.ok (sv.map (·.1)) → (∀ x ∈ d.fs, x ∈ fs) → (∀ x ∈ d.ts, x ∈ ts) → (∀ i, d = .changed i → ∃ s', sts[i]? = some s' ∧ s'.deed.isFl = false) → EndE i h (FactR fs ts sv sts) d.w h5 := fun d h5 q1 q2 q3 q4 q5 => endE0 q1 ⟨d, rfl, q2, q3, q4, q5⟩ fun n => d.fits n
  have f_ok : ∀ x ∈ fs, It.ok (sv.map (·.1)) "file" (.s x) = true := fun x hx => it_file (o.fok x hx)
  by_cases hz : K < 2 ∧ rw_ ≠ []
  · obtain ⟨k0, hne⟩ := hz
    have ie : rw_.isEmpty = false := by cases rw_ with
      | nil => exact (hne rfl).elim
      | cons x l => rfl
    obtain ⟨_, h5, e5, hx, he5⟩ := (ev_of (P := P) (n := n - 1) (by omega) (ws := rw_) he2.src (List.length_pos_iff.mpr hne) hlen (fun w hw n => by obtain ⟨k, _, rfl, _⟩ := hmem w hw; rfl)).ex
    obtain ⟨k, s', rfl, hs1, hs2⟩ := hmem _ hx
    have hk : k < sts.length := (List.getElem?_eq_some_iff.mp hs1).1
    have := fin (.changed k) h5 ((he1.trans he2).trans he5) (by
      intro p hp; simp [Fact.ks, Fact.its] at hp; subst hp
      simp [It.ok]; omega) (by simp [Fact.fs]) (by simp [Fact.ts]) (by intro j hj; cases hj; exact ⟨s', hs1, hs2⟩)
    obtain ⟨J, hJ⟩ : ∃ J : Int, J = k := ⟨_, rfl⟩
    rw [← hJ] at e5
    simp only [Fact.w, Fact.nm, Fact.its, It.w, List.map_cons, List.map_nil, ← hJ] at this
    simp [fd__law_fact, b__law_fact, itemsW, srcW, ez, el, e1, w_vw, w_files, e2, cmpW, k0, sh1, sh2, eqv_nil, ie, e5]
    exact this
  · have hc : decide (K < 2) = false ∨ (K < 2 ∧ rw_ = []) := by
      by_cases k0 : K < 2
      · exact .inr ⟨k0, by by_cases hn : rw_ = []; exact hn; exact (hz ⟨k0, hn⟩).elim⟩
      · exact .inl (decide_eq_false k0)
    clear hz
    rcases hc with z | ⟨z, z2⟩
    · by_cases k2 : K = 2
      · have := fin (.there f) h2 (he1.trans he2) (by intro p hp; simp [Fact.ks, Fact.its] at hp; subst hp; exact f_ok f hf) (by simpa [Fact.fs] using hf) (by simp [Fact.ts]) (by simp)
        simp [fd__law_fact, b__law_fact, itemsW, srcW, ez, el, e1, w_vw, w_files, e2, cmpW, shp_int, eqv_int, k2]
        exact this
      · by_cases k3 : K = 3
        · have := fin (.as_ f g) h3 ((he1.trans he2).trans he3) (by intro p hp; simp [Fact.ks, Fact.its] at hp; rcases hp with rfl | rfl; exact f_ok f hf; exact f_ok g hg) (by simp [Fact.fs, hf, hg]) (by simp [Fact.ts]) (by simp)
          simp [fd__law_fact, b__law_fact, itemsW, srcW, ez, el, e1, w_vw, w_files, e2, cmpW, shp_int, eqv_int, k3, e3]
          exact this
        · have := fin (.is_ f t) h4 ((he1.trans he2).trans he4) (by intro p hp; simp [Fact.ks, Fact.its] at hp; rcases hp with rfl | rfl; exact f_ok f hf; exact it_text (o.tok t ht)) (by simp [Fact.fs, hf]) (by simp [Fact.ts, ht]) (by simp)
          simp [fd__law_fact, b__law_fact, itemsW, srcW, ez, el, e1, w_vw, w_files, w_texts, e2, cmpW, shp_int, eqv_int, z, k2, k3, e4]
          exact this
    · have := fin (.is_ f t) h4 ((he1.trans he2).trans he4) (by intro p hp; simp [Fact.ks, Fact.its] at hp; rcases hp with rfl | rfl; exact f_ok f hf; exact it_text (o.tok t ht)) (by simp [Fact.fs, hf]) (by simp [Fact.ts, ht]) (by simp)
      have k2 : ¬ K = 2 := by omega
      have k3 : ¬ K = 3 := by omega
      subst z2
      simp [fd__law_fact, b__law_fact, itemsW, srcW, ez, el, e1, w_vw, w_files, w_texts, e2, cmpW, shp_int, eqv_int, z, k2, k3, e4, sh2, eqv_nil]
      exact this
end
end Hd
set_option Elab.async false
set_option linter.all false
set_option maxRecDepth 100000
set_option maxHeartbeats 4000000
namespace Hd
open PySem PySem.Spec L2 MP
variable {P : MP.Prog} [LibG P]
section
variable {fs ts : List PySem.Str} {sv : List SV} {sts : List Step}
def FOk (fs ts : List PySem.Str) (sv : List SV) (sts : List Step) (d : Fact) : Prop := d.ok (sv.map (·.1)) ∧ (∀ x ∈ d.fs, x ∈ fs) ∧ (∀ x ∈ d.ts, x ∈ ts) ∧ ∀ i, d = .changed i → ∃ s', sts[i]? = some s' ∧ s'.deed.isFl = false
def St36 (i : Nat) (fs ts : List PySem.Str) (sv : List SV) (sts : List Step) (full : Bool) (L : Nat) (d : Deed) (v4 v6 v8 v9 v10 v11 : Option W) : Sto := [some (.ref i), some (wW fs ts sv), some (.tup (sts.map Step.w)), some (.bl full), v4, some d.w, v6, some (.ref L), v8, v9, v10, v11]
def Inv36a (i : Nat) (fs ts : List PySem.Str) (sv : List SV) (sts : List Step) (full : Bool) (L : Nat) (d : Deed) (h0 l : Hq) (k : Nat) (s' : Sto) (h' : Hq) : Prop := ∃ (wh : List (Bool × Fact)) (h1 : Hq) (v4 : Option W), s' = St36 i fs ts sv sts full L d v4 (some (.tup (wh.map condW))) none none none none ∧ Eff i h0 h1 ∧ h' = h1 ++ l ∧ wh.length = k ∧ ∀ p ∈ wh, FOk fs ts sv sts p.2
theorem body36_1 {n F T S : Nat} (hn : 5 ≤ n) {h0 h1 l : Hq} {i : Nat} {full : Bool} {L : Nat} {d : Deed} {v4 : Option W} {wh : List (Bool × Fact)} (he : Eff i h0 h1) (o : WOk F T S fs ts sv) (hF : 0 < F) (hT : 0 < T) (hF2 : F ≤ 100) (hT2 : T ≤ 100) (hst : sts.length ≤ 24) (hd : ∀ s ∈ sts, s.deed.ok (sv.map (·.1))) (hw : wh.length ≤ 100) (hwh : ∀ p ∈ wh, FOk fs ts sv sts p.2) {TT : W → Hq → Prop} :
    SatS (evSs (gam P n) b__law_step_1 (St36 i fs ts sv sts full L d v4 (some (.tup (wh.map condW))) none none none none) (h1 ++ l)) (Inv36a i fs ts sv sts full L d h0 l (wh.length + 1)) TT := by
  obtain ⟨_, _, e1, ⟨a, rfl, ha⟩, h2, rfl, he2⟩ := (Sat.app (ev_draw (P := P) (n := n) (by omega) (m := 3) (he.src.app (l := l)) (by omega) (by omega)) he.src.lt).ex
  obtain ⟨_, _, e2, ⟨f, rfl, hf⟩, h3, rfl, he3⟩ := (Sat.app (ev_fact (P := P) (n := n) (by omega) (he2.src.app (l := l)) o hF hT hF2 hT2 hst hd) he2.src.lt).ex
  obtain ⟨K, hK⟩ : ∃ K : Int, K = a := ⟨_, rfl⟩
  rw [← hK] at e1
  have vd : ∀ h, vw h f.w = f.w := fun _ => rfl
  have l1 : wh.length + 1 ≤ MP.line := by unfold MP.line; omega
  unfold St36
  simp [b__law_step_1, e1, cmpW, e2, binW, l1]
  exact ⟨wh ++ [(decide (0 < K), f)], h3, v4, by simp [St36, condW], (he.trans he2).trans he3, rfl, by simp, fun p hp => by
    rcases List.mem_append.mp hp with hp | hp
    · exact hwh p hp
    · simp at hp; subst hp; exact hf⟩
def Inv36b (i : Nat) (fs ts : List PySem.Str) (sv : List SV) (sts : List Step) (full : Bool) (L : Nat) (d : Deed) (v4 v6 : Option W) (h0 : Hq) (don : List SV) (s' : Sto) (h' : Hq) : Prop := ∃ (nl : List PySem.Str) (h1 : Hq) (v8 v9 v10 v11 : Option W), s' = St36 i fs ts sv sts full L d v4 v6 v8 v9 v10 v11 ∧ Eff i h0 h1 ∧ h' = h1 ++ [.lst (nl.map W.str)] ∧ List.Sublist nl (don.map (·.1)) ∧ (d.isFl = true → nl = []) ∧ (full = true → ∀ p ∈ don, d.must p.2 = true → p.1 ∈ nl)
def mustE : E := .and_ (.cmp .isin (.idx (.var 5) (.cst (.int 0))) (.tup (.cons (.cst (.str "put")) (.cons (.cst (.str "drop")) (.cons (.cst (.str "copy")) .nil))))) (.cmp .isin (.idx (.var 5) (.cst (.int 1))) (.var 9))
theorem ev_must {G : Gam} {i : Nat} {full : Bool} {L : Nat} {d : Deed} {v4 v6 v8 v10 v11 : Option W} {reads : List PySem.Str} {h : Hq} : evE G mustE (St36 i fs ts sv sts full L d v4 v6 v8 (some (.tup (reads.map W.str))) v10 v11) h = .ok (.bl (d.must reads)) h := by
  have c2 : ∀ f : PySem.Str, cmpW .isin (.str f) (.tup (reads.map W.str)) = some (decide (f ∈ reads)) := fun f => by
    simp only [cmpW, flatW, flat_strs, inD_strs]; rfl
  have c1 : cmpW .isin (.str d.nm) (.tup [.str "put", .str "drop", .str "copy"]) = some (match d with
      | .put .. => true
      | .drop _ => true
      | .copy .. => true
      | _ => false) := by cases d <;> simp [cmpW, flatW, inD, eqvS, Deed.nm]
  unfold St36
  cases d <;> simp only [Deed.nm] at c1 <;> simp [mustE, Deed.w, Deed.nm, Deed.its, It.w, idxW, atI, ixN, c1, c2, Deed.must]
theorem must_fl {d : Deed} {reads : List PySem.Str} (h : d.isFl = true) : d.must reads = false := by cases d <;> first | rfl | cases h
end
end Hd
set_option Elab.async false
set_option linter.all false
set_option maxRecDepth 100000
set_option maxHeartbeats 4000000
namespace Hd
open PySem PySem.Spec L2 MP
variable {P : MP.Prog} [LibG P]
section
variable {fs ts : List PySem.Str} {sv : List SV} {sts : List Step}
theorem body36_0 {n : Nat} (hn : 5 ≤ n) {h0 h1 : Hq} {i : Nat} {full : Bool} {L : Nat} {d : Deed} {v4 v6 v10 v11 : Option W} {p : SV} {don : List SV} {nl : List PySem.Str} (he : Eff i h0 h1) (hL : h1.length = L) (hd : d.ok (sv.map (·.1))) (hnl : nl.length ≤ 1000) (q1 : List.Sublist nl (don.map (·.1))) (q2 : d.isFl = true → nl = []) (q3 : full = true → ∀ p ∈ don, d.must p.2 = true → p.1 ∈ nl) {TT : W → Hq → Prop} :
    SatS (evSs (gam P n) b__law_step_0 (St36 i fs ts sv sts full L d v4 v6 (some (.str p.1)) (some (.tup (p.2.map W.str))) v10 v11) (h1 ++ [.lst (nl.map W.str)])) (Inv36b i fs ts sv sts full L d v4 v6 h0 (don ++ [p])) TT := by
  obtain ⟨_, _, e1, ⟨a, rfl, ha⟩, h2, rfl, he2⟩ := (Sat.app (ev_draw (P := P) (n := n) (by omega) (m := 4) (he.src.app (l := [.lst (nl.map W.str)])) (by omega) (by omega)) he.src.lt).ex
  obtain ⟨_, _, e2, ⟨b, rfl, hb⟩, h3, rfl, he3⟩ := (Sat.app (ev_draw (P := P) (n := n) (by omega) (m := 6) (he2.src.app (l := [.lst (nl.map W.str)])) (by omega) (by omega)) he2.src.lt).ex
  obtain ⟨_, _, e3, ⟨c, rfl, hc⟩, h4, rfl, he4⟩ := (Sat.app (ev_draw (P := P) (n := n) (by omega) (m := 6) (he.src.app (l := [.lst (nl.map W.str)])) (by omega) (by omega)) he.src.lt).ex
  obtain ⟨A, hA⟩ : ∃ A : Int, A = a := ⟨_, rfl⟩
  obtain ⟨B, hB⟩ : ∃ B : Int, B = b := ⟨_, rfl⟩
  obtain ⟨C, hC⟩ : ∃ C : Int, C = c := ⟨_, rfl⟩
  rw [← hA] at e1
  rw [← hB] at e2
  rw [← hC] at e3
  have hl3 : h3.length = L := he3.len.trans (he2.len.trans hL)
  have hl4 : h4.length = L := he4.len.trans hL
  have g : ∀ (l : Hq) (o : O), l.length = L → (l ++ [o])[L]? = some o := fun l o e => by rw [← e]; simp
  have g2 : ∀ (l : Hq) (o p : O), l.length = L → (l ++ [o]).set L p = l ++ [p] := fun l o p e => by rw [← e]; simp
  have xl : nl.length < MP.line := by unfold MP.line; omega
  have sd := Deed.shp hd
  have vd : ∀ h, vw h d.w = d.w := fun _ => rfl
  -- the ends
  have app : ∀ (h5 : Hq) (v10 v11 : Option W), Eff i h0 h5 → d.isFl = false → Inv36b i fs ts sv sts full L d v4 v6 h0 (don ++ [p]) (St36 i fs ts sv sts full L d v4 v6 (some (.str p.1)) (some (.tup (p.2.map W.str))) v10 v11) (h5 ++ [.lst ((nl ++ [p.1]).map W.str)]) := fun h5 v10 v11 ee hf =>
    ⟨nl ++ [p.1], h5, _, _, v10, v11, rfl, ee, rfl, by rw [List.map_append]; exact List.Sublist.append q1 (List.Sublist.refl _), fun z => (by rw [hf] at z; cases z), fun z r hr hm => by
      rcases List.mem_append.mp hr with hr | hr
      · exact List.mem_append.mpr (.inl (q3 z r hr hm))
      · simp at hr; subst hr; simp⟩
  have stay : ∀ (h5 : Hq) (v10 v11 : Option W), Eff i h0 h5 → (full = true → d.must p.2 = false) → Inv36b i fs ts sv sts full L d v4 v6 h0 (don ++ [p]) (St36 i fs ts sv sts full L d v4 v6 (some (.str p.1)) (some (.tup (p.2.map W.str))) v10 v11) (h5 ++ [.lst (nl.map W.str)]) := fun h5 v10 v11 ee hm0 =>
    ⟨nl, h5, _, _, v10, v11, rfl, ee, rfl, by rw [List.map_append]; exact q1.trans (List.sublist_append_left _ _), q2, fun z r hr hm => by
      rcases List.mem_append.mp hr with hr | hr
      · exact q3 z r hr hm
      · simp at hr; subst hr; rw [hm0 z] at hm; cases hm⟩
  have em := ev_must (G := gam P n) (fs := fs) (ts := ts) (sv := sv) (sts := sts) (i := i) (full := full) (L := L) (d := d) (v4 := v4) (v6 := v6) (v8 := some (.str p.1)) (v10 := v10) (v11 := v11) (reads := p.2) (h := h1 ++ [.lst (nl.map W.str)])
  unfold b__law_step_0
  refine SatS.cons ?_
  rw [x_asg, show E.and_ _ _ = mustE from rfl, em]
  unfold St36 at app stay ⊢
  cases hf : d.isFl with
  | true =>
    have hm := must_fl (reads := p.2) hf
    have := stay h1 (some (.bl false)) (some (.bl false)) he (fun _ => hm)
    simp [hm, cmpW, vd, sd, shp_fl, Deed.eq_fl, hf]
    simpa using this
  | false =>
    cases hm : d.must p.2 with
    | false =>
      by_cases hc0 : C = 0
      · have := app h4 (some (.bl false)) (some (.bl false)) (he.trans he4) hf
        simp [cmpW, vd, sd, shp_fl, Deed.eq_fl, hf, e3, shp_int, eqv_int, hc0, bmOk, bmW, g _ _ hl4, g _ _ hL, g2 _ _ _ hl4, xl]
        simpa using this
      · have := stay h4 (some (.bl false)) (some (.bl false)) (he.trans he4) (fun _ => hm)
        simp [cmpW, vd, sd, shp_fl, Deed.eq_fl, hf, e3, shp_int, eqv_int, hc0]
        simpa using this
    | true =>
      cases full with
      | true =>
        have := app h1 (some (.bl true)) (some (.bl true)) he hf
        simp [cmpW, vd, sd, shp_fl, Deed.eq_fl, hf, bmOk, bmW, g _ _ hL, g2 _ _ _ hL, xl]
        simpa using this
      | false =>
        by_cases ha0 : 0 < A
        · have hl2 : h2.length = L := he2.len.trans hL
          have := app h2 (some (.bl true)) (some (.bl true)) (he.trans he2) hf
          simp [cmpW, vd, sd, shp_fl, Deed.eq_fl, hf, e1, ha0, bmOk, bmW, g _ _ hl2, g2 _ _ _ hl2, xl]
          simpa using this
        · by_cases hb0 : B = 0
          · have := app h3 (some (.bl true)) (some (.bl false)) ((he.trans he2).trans he3) hf
            simp [cmpW, vd, sd, shp_fl, Deed.eq_fl, hf, e1, e2, ha0, hb0, shp_int, eqv_int, bmOk, bmW, g _ _ hl3, g2 _ _ _ hl3, xl]
            simpa using this
          · have := stay h3 (some (.bl true)) (some (.bl false)) ((he.trans he2).trans he3) (fun z => by cases z)
            simp [cmpW, vd, sd, shp_fl, Deed.eq_fl, hf, e1, e2, ha0, hb0, shp_int, eqv_int]
            simpa using this
end
end Hd
set_option Elab.async false
set_option linter.all false
set_option maxRecDepth 100000
set_option maxHeartbeats 4000000
namespace Hd
open PySem PySem.Spec L2 MP
variable {P : MP.Prog} [LibG P]
section
variable {fs ts : List PySem.Str} {sv : List SV} {sts : List Step}
def StepR (fs ts : List PySem.Str) (sv : List SV) (sts : List Step) (full : Bool) (w : W) : Prop := ∃ s : Step, w = s.w ∧ s.Ok (sv.map (·.1)) ∧ s.whens.length ≤ 2 ∧ s.notify.length ≤ 100 ∧ (∀ p ∈ s.whens, FOk fs ts sv sts p.2) ∧ (∀ x ∈ s.deed.fs, x ∈ fs) ∧ (∀ x ∈ s.deed.ts, x ∈ ts) ∧ (full = true → ∀ p ∈ sv, s.deed.must p.2 = true → p.1 ∈ s.notify)
theorem pick2 {r : Nat} (h : r < 5) : ∃ c : Nat, c ≤ 2 ∧ idxW (.lst [W.int 0, .int 0, .int 1, .int 1, .int 2]) (.int (r : Int)) = some (.int (c : Int)) := by
  have : r = 0 ∨ r = 1 ∨ r = 2 ∨ r = 3 ∨ r = 4 := by omega
  rcases this with rfl | rfl | rfl | rfl | rfl
  · exact ⟨0, by omega, rfl⟩
  · exact ⟨0, by omega, rfl⟩
  · exact ⟨1, by omega, rfl⟩
  · exact ⟨1, by omega, rfl⟩
  · exact ⟨2, by omega, rfl⟩
theorem fits_conds (n : Nat) (l : List (Bool × Fact)) : W.fits n (.tup (l.map condW)) = true := by
  unfold W.fits
  induction l with
  | nil => rfl
  | cons a l ih =>
    have := Fact.fits a.2 n
    rw [List.map_cons]
    simp only [W.fitsL, ih, Bool.and_true, condW, W.fits, this]
theorem Step.fits (s : Step) (n : Nat) : W.fits n s.w = true := by
  have h1 := s.deed.fits n
  have h2 := fits_conds n s.whens
  have h3 := fits_strs n s.notify
  unfold Step.w
  unfold W.fits
  simp only [W.fitsL, h1, h2, h3, Bool.and_self]
theorem loop36a {n F T S : Nat} (hn : 5 ≤ n) {h0 l : Hq} {i : Nat} {full : Bool} {L : Nat} {d : Deed} {c : Nat} (hc : c ≤ 50) (s : Src h0 i) (o : WOk F T S fs ts sv) (hF : 0 < F) (hT : 0 < T) (hF2 : F ≤ 100) (hT2 : T ≤ 100) (hst : sts.length ≤ 24) (hd : ∀ s ∈ sts, s.deed.ok (sv.map (·.1))) {TT : W → Hq → Prop} :
    SatS (forLoop (.name 4) (fun s h => evSs (gam P n) b__law_step_1 s h) (Rng 0 c) (St36 i fs ts sv sts full L d none (some (.tup [])) none none none none) (h0 ++ l)) (Inv36a i fs ts sv sts full L d h0 l c) TT := by
  refine SatS.rng (Inv36a i fs ts sv sts full L d h0 l) (fun t s' h' ht z => ?_) ⟨[], h0, none, rfl, s.eff, rfl, rfl, fun p hp => by simp at hp⟩ fun s' h' z => z
  obtain ⟨wh, h1, v4, es, ee, eh, el, ef⟩ := z
  subst es eh
  have e : (St36 i fs ts sv sts full L d v4 (some (.tup (wh.map condW))) none none none none).set 4 (some (.int (t : Int))) = St36 i fs ts sv sts full L d (some (.int (t : Int))) (some (.tup (wh.map condW))) none none none none := rfl
  rw [e, ← el]
  exact body36_1 hn ee o hF hT hF2 hT2 hst hd (by omega) ef
theorem loop36b {n : Nat} (hn : 5 ≤ n) {h0 : Hq} {i : Nat} {full : Bool} {L : Nat} {d : Deed} {v4 v6 : Option W} (s : Src h0 i) (hL : h0.length = L) (hd : d.ok (sv.map (·.1))) (hs : sv.length ≤ 100) {TT : W → Hq → Prop} :
    SatS (forLoop (.tup (.cons (.name 8) (.cons (.name 9) .nil))) (fun s h => evSs (gam P n) b__law_step_0 s h) (sv.map encS) (St36 i fs ts sv sts full L d v4 v6 none none none none) (h0 ++ [.lst []])) (Inv36b i fs ts sv sts full L d v4 v6 h0 sv) TT := by
  refine SatS.for_ (fun ws s' h' => ∃ don rest, sv = don ++ rest ∧ ws = rest.map encS ∧ Inv36b i fs ts sv sts full L d v4 v6 h0 don s' h') (fun w ws s' h' z => ?_) (fun s' h' z => ?_) ⟨[], sv, rfl, rfl, [], h0, none, none, none, none, rfl, s.eff, rfl, by simp, fun _ => rfl, fun _ p hp => by simp at hp⟩
  · obtain ⟨don, rest, e1, e2, nl, h1, v8, v9, v10, v11, e3, e4, e5, e6, e7, e8⟩ := z
    cases rest with
    | nil => cases e2
    | cons p rest =>
      rw [List.map_cons] at e2
      cases e2
      subst e3 e5
      refine ⟨St36 i fs ts sv sts full L d v4 v6 (some (.str p.1)) (some (.tup (p.2.map W.str))) v10 v11, by unfold St36 encS; simp, ?_⟩
      have hnl : nl.length ≤ 1000 := by
        have h1 := e6.length_le
        have h2 := congrArg List.length e1
        simp at h1 h2
        omega
      exact (body36_0 (P := P) (n := n) hn (TT := TT) (p := p) (don := don) (v10 := v10) (v11 := v11) e4 (e4.len.trans hL) hd hnl e6 e7 e8).imp (fun s' h' q => ⟨don ++ [p], rest, by simp [← e1], rfl, q⟩) fun _ _ z => z
  · obtain ⟨don, rest, e1, e2, q⟩ := z
    cases rest with
    | cons p rest => cases e2
    | nil =>
      rw [List.append_nil] at e1
      rw [← e1] at q; exact q
theorem ev_step {n F T S : Nat} (hn : 6 ≤ n) {h : Hq} {i : Nat} {full : Bool} (s : Src h i) (o : WOk F T S fs ts sv) (hF : 0 < F) (hT : 0 < T) (hF2 : F ≤ 100) (hT2 : T ≤ 100) (hS : S ≤ 3) (hst : sts.length ≤ 24) (hd : ∀ s ∈ sts, s.deed.ok (sv.map (·.1))) :
    Sat ((gam P n).fn "_law_step" [.ref i, wW fs ts sv, .tup (sts.map Step.w), .bl full] h) (fun w h' => StepR fs ts sv sts full w ∧ Eff i h h') := by
  refine Sat.callE (Q := StepR fs ts sv sts full) (by omega) LibG._law_step (by rfl) ?_
  have hlt := s.lt
  have svl : sv.length ≤ 3 := by rw [o.s]; exact hS
  obtain ⟨_, h1, e1, ⟨d, rfl, d1, d2, d3⟩, he1⟩ := (ev_deed (P := P) (n := n - 1) (by omega) s o hF hT hF2 hT2 (by omega)).ex
  obtain ⟨_, _, e2, ⟨a, rfl, ha⟩, h2, rfl, he2⟩ := (Sat.app (ev_draw (P := P) (n := n - 1) (by omega) (m := 5) (he1.src.app (l := [.lst []])) (by omega) (by omega)) he1.src.lt).ex
  obtain ⟨c, hc, hpk⟩ := pick2 (r := a) (by omega)
  obtain ⟨A, hA⟩ : ∃ A : Int, A = a := ⟨_, rfl⟩
  obtain ⟨C, hC⟩ : ∃ C : Int, C = c := ⟨_, rfl⟩
  have ir := Rng.items (m := c) (by omega)
  rw [← hA] at e2 hpk
  rw [← hC] at hpk ir
  have hl2 : h2.length = h1.length := he2.len
  have lp1 := loop36a (P := P) (n := n - 1) (by omega) (l := [.lst []]) (full := full) (L := h1.length) (d := d) (c := c) (by omega) he2.src o hF hT hF2 hT2 hst hd (TT := EndE i h (StepR fs ts sv sts full))
  unfold St36 at lp1
  have vd : ∀ h, vw h d.w = d.w := fun _ => rfl
  simp [fd__law_step, b__law_step, e1, e2, hpk, ir]
  refine SatS.seq (lp1.imp (fun s' h' q => ?_) fun _ _ z => z)
  obtain ⟨wh, h3, v4, q1, q2, q3, q4, q5⟩ := q
  subst q1 q3
  have hl3 : h3.length = h1.length := q2.len.trans hl2
  have lp2 := loop36b (P := P) (n := n - 1) (by omega) (full := full) (fs := fs) (ts := ts) (sts := sts) (L := h1.length) (v4 := v4) (v6 := some (.tup (wh.map condW))) q2.src hl3 d1 (by omega) (TT := EndE i h (StepR fs ts sv sts full))
  unfold St36 at lp2 ⊢
  simp [w_serv, w_vw, itemsW, srcW]
  refine SatS.seq (lp2.imp (fun s' h' q => ?_) fun _ _ z => z)
  obtain ⟨nl, h4, v8, v9, v10, v11, p1, p2, p3, p4, p5, p6⟩ := q
  subst p1 p3
  have hl4 : h4.length = h1.length := p2.len.trans hl3
  have g : (h4 ++ [O.lst (nl.map W.str)])[h1.length]? = some (O.lst (nl.map W.str)) := by rw [← hl4]; simp
  obtain ⟨m2, m3⟩ := sort_strs nl
  unfold St36
  simp [vw, g, m2, m3, b1W]
  have nll : nl.length ≤ 3 := by
    have := p4.length_le
    simp at this; omega
  have nmOk : ∀ x ∈ sv.map (·.1), okF x := fun x hx => by
    obtain ⟨p, hp, rfl⟩ := List.mem_map.mp hx; exact (o.sok p hp).1
  have smem : ∀ x, x ∈ nl.mergeSort strLe ↔ x ∈ nl := fun x => (List.mergeSort_perm nl strLe).mem_iff
  have hN : namesB 3 (nl.mergeSort strLe) = true := by
    unfold namesB
    rw [List.length_mergeSort, decide_eq_true nll, asc_B (sort_asc (p4.nodup o.nd)), Bool.true_and, Bool.and_true]
    exact List.all_eq_true.mpr fun x hx => (nmOk x (p4.subset ((smem x).mp hx))).1
  refine endE (((he1.trans he2).trans q2).trans p2) ⟨⟨d, wh, nl.mergeSort strLe⟩, rfl, ⟨d1, by dsimp only; omega, fun p hp => (q5 p hp).1, hN, fun x hx => p4.subset ((smem x).mp hx), fun z => by dsimp only at *; rw [p5 z]; exact List.mergeSort_nil⟩, by dsimp only; omega, by dsimp only; rw [List.length_mergeSort]; omega, q5, d2, d3, fun z p hp hm => (smem _).mpr (p6 z p hp hm)⟩ fun n => ?_
  exact Step.fits ⟨d, wh, nl.mergeSort strLe⟩ n
end
end Hd
set_option Elab.async false
set_option linter.all false
set_option maxRecDepth 100000
set_option maxHeartbeats 4000000
namespace Hd
open PySem PySem.Spec L2 MP
variable {P : MP.Prog} [LibG P]
theorem nodup_le : ∀ {l m : List PySem.Str}, l.Nodup → (∀ x ∈ l, x ∈ m) → l.length ≤ m.length
  | [], m, _, _ => by simp
  | a :: l, m, nd, h => by
    obtain ⟨h1, h2⟩ := List.nodup_cons.mp nd
    have ha : a ∈ m := h a (by simp)
    have := nodup_le (m := m.erase a) h2 fun x hx => (List.mem_erase_of_ne (by rintro rfl; exact h1 hx)).mpr (h x (by simp [hx]))
    rw [List.length_erase_of_mem ha] at this
    have : 0 < m.length := List.length_pos_of_mem ha
    simp; omega
theorem sset_le {l m : List PySem.Str} (h : ∀ x ∈ l, x ∈ m) : (ssetL l).length ≤ m.length := by
  unfold ssetL
  rw [List.length_mergeSort]
  exact nodup_le (nodup_eraseDups l) fun x hx => h x (List.mem_eraseDups.mp hx)
theorem flat_le {α β : Type} {g : α → List β} {c : Nat} : ∀ {l : List α}, (∀ a ∈ l, (g a).length ≤ c) → (l.flatMap g).length ≤ l.length * c
  | [], _ => by simp
  | a :: l, h => by
    have h1 := h a (by simp)
    have h2 := flat_le (g := g) (l := l) fun b hb => h b (by simp [hb])
    rw [List.flatMap_cons, List.length_append, List.length_cons, Nat.add_mul]
    omega
section
variable {fs ts : List PySem.Str} {sv : List SV} {sts : List Step}
structure SGood (fs ts : List PySem.Str) (sv : List SV) (full : Bool) (s : Step) : Prop where
  ok : s.Ok (sv.map (·.1))
  wh : s.whens.length ≤ 2
  nt : s.notify.length ≤ 100
  wf : ∀ p ∈ s.whens, (∀ x ∈ p.2.fs, x ∈ fs) ∧ ∀ x ∈ p.2.ts, x ∈ ts
  df : ∀ x ∈ s.deed.fs, x ∈ fs
  dt : ∀ x ∈ s.deed.ts, x ∈ ts
  due : full = true → ∀ p ∈ sv, s.deed.must p.2 = true → p.1 ∈ s.notify
def PGood (fs ts : List PySem.Str) (sv : List SV) (full : Bool) (sts : List Step) : Prop := (∀ s ∈ sts, SGood fs ts sv full s) ∧ Ord sts
theorem rows_mem {s : Step} {r : Rw} (h : r ∈ s.rows) : r = .dd s.deed ∨ ∃ p ∈ s.whens, r = .ff p.2 := by
  unfold Step.rows at h
  rcases List.mem_cons.mp h with h | h
  · exact .inl h
  · obtain ⟨p, hp, rfl⟩ := List.mem_map.mp h
    exact .inr ⟨p, hp, rfl⟩
theorem SGood.allF {full : Bool} {s : Step} (g : SGood fs ts sv full s) : (∀ x ∈ s.fs, x ∈ fs) ∧ s.fs.length ≤ 6 := by
  constructor
  · intro x hx
    unfold Step.fs at hx
    obtain ⟨r, hr, hx⟩ := List.mem_flatMap.mp hx
    rcases rows_mem hr with rfl | ⟨p, hp, rfl⟩
    · exact g.df x hx
    · exact (g.wf p hp).1 x hx
  · unfold Step.fs
    have h1 := flat_le (g := Rw.fs) (c := 2) (l := s.rows) fun r hr => by
      cases r with
      | dd d => cases d <;> simp [Rw.fs, Deed.fs]
      | ff d => cases d <;> simp [Rw.fs, Fact.fs]
    have h2 : s.rows.length ≤ 3 := by have := g.wh; simp [Step.rows]; omega
    omega
theorem SGood.allT {full : Bool} {s : Step} (g : SGood fs ts sv full s) : (∀ x ∈ s.ts, x ∈ ts) ∧ s.ts.length ≤ 6 := by
  constructor
  · intro x hx
    unfold Step.ts at hx
    obtain ⟨r, hr, hx⟩ := List.mem_flatMap.mp hx
    rcases rows_mem hr with rfl | ⟨p, hp, rfl⟩
    · exact g.dt x hx
    · exact (g.wf p hp).2 x hx
  · unfold Step.ts
    have h1 := flat_le (g := Rw.ts) (c := 2) (l := s.rows) fun r hr => by
      cases r with
      | dd d => cases d <;> simp [Rw.ts, Deed.ts]
      | ff d => cases d <;> simp [Rw.ts, Fact.ts]
    have h2 : s.rows.length ≤ 3 := by have := g.wh; simp [Step.rows]; omega
    omega
theorem PGood.snoc {full : Bool} {w : W} (g : PGood fs ts sv full sts) (r : StepR fs ts sv sts full w) : ∃ s, w = s.w ∧ PGood fs ts sv full (sts ++ [s]) := by
  obtain ⟨s, rfl, r1, r2, r3, r4, r5, r6, r7⟩ := r
  refine ⟨s, rfl, fun x hx => ?_, fun k x hk p hp i hi => ?_⟩
  · rcases List.mem_append.mp hx with hx | hx
    · exact g.1 x hx
    · simp at hx; subst hx
      exact ⟨r1, r2, r3, fun p hp => ⟨(r4 p hp).2.1, (r4 p hp).2.2.1⟩, r5, r6, r7⟩
  · by_cases hlt : k < sts.length
    · rw [List.getElem?_append_left hlt] at hk
      obtain ⟨h1, s', h2, h3⟩ := g.2 k x hk p hp i hi
      exact ⟨h1, s', by rw [List.getElem?_append_left (by omega)]; exact h2, h3⟩
    · have hk2 := (List.getElem?_eq_some_iff.mp hk).1
      simp at hk2
      have : k = sts.length := by omega
      subst this
      simp at hk; subst hk
      obtain ⟨s', h2, h3⟩ := (r4 p hp).2.2.2 i hi
      have h4 := (List.getElem?_eq_some_iff.mp h2).1
      exact ⟨h4, s', by rw [List.getElem?_append_left h4]; exact h2, h3⟩
theorem PGood.pb {F T S : Nat} {full : Bool} (g : PGood fs ts sv full sts) (o : WOk F T S fs ts sv) (hF : F ≤ 4) (hT : T ≤ 6) (hS : S ≤ 3) (hl : sts.length ≤ 24) : PBOk sv sts where
  sv3 := by rw [o.s]; exact hS
  serv := fun p hp => by
    obtain ⟨h1, h2, h3, h4⟩ := o.sok p hp
    unfold servB namesB
    rw [h1.1, asc_B h4]
    have := o.f
    have h5 : p.2.length ≤ 4 := by omega
    rw [decide_eq_true h5, Bool.true_and, Bool.true_and, Bool.and_true]
    exact List.all_eq_true.mpr fun x hx => (o.fok x (h2 x hx)).1
  sok := fun p hp => by
    obtain ⟨h1, h2, h3, h4⟩ := o.sok p hp
    exact ⟨h1.2.1, by have := h1.2.2; omega, by omega, fun x hx => ⟨by have := (o.fok x (h2 x hx)).2.2; omega, (o.fok x (h2 x hx)).2.1⟩⟩
  nd := o.nd
  st24 := hl
  step := fun s hs => ⟨(g.1 s hs).ok, by have := (g.1 s hs).nt; omega⟩
  ord := g.2
  f6 := by
    refine Nat.le_trans (sset_le (m := fs) fun x hx => ?_) (by rw [o.f]; omega)
    rcases List.mem_append.mp hx with hx | hx
    · obtain ⟨p, hp, hx⟩ := List.mem_flatMap.mp hx
      exact (o.sok p hp).2.1 x hx
    · obtain ⟨s, hs, hx⟩ := List.mem_flatMap.mp hx
      exact (g.1 s hs).allF.1 x hx
  t6 := by
    refine Nat.le_trans (sset_le (m := ts) fun x hx => ?_) (by rw [o.t]; exact hT)
    obtain ⟨s, hs, hx⟩ := List.mem_flatMap.mp hx
    exact (g.1 s hs).allT.1 x hx
  fz := by
    unfold filesL
    have h1 := flat_le (g := fun p : SV => p.2) (c := 6) (l := sv) fun p hp => by have := (o.sok p hp).2.2.1; omega
    have h2 := flat_le (g := Step.fs) (c := 6) (l := sts) fun s hs => (g.1 s hs).allF.2
    have := o.s
    rw [List.length_append]
    omega
  tz := by
    unfold textsL
    have h2 := flat_le (g := Step.ts) (c := 6) (l := sts) fun s hs => (g.1 s hs).allT.2
    omega
theorem dueS_nil {k : Nat} {s : Step} (h : ∀ p ∈ sv, s.deed.must p.2 = true → p.1 ∈ s.notify) : dueS sv k s = [] := by
  unfold dueS
  rw [List.map_eq_nil_iff, List.filter_eq_nil_iff]
  intro p hp
  cases hm : s.deed.must p.2 with
  | false => simp
  | true => simp [h p hp hm]
theorem dueF_nil : ∀ {sts : List Step} (k : Nat), (∀ s ∈ sts, ∀ p ∈ sv, s.deed.must p.2 = true → p.1 ∈ s.notify) → dueF sv k sts = []
  | [], _, _ => rfl
  | s :: sts, k, h => by
    unfold dueF
    rw [dueS_nil (h s (by simp)), dueF_nil (k + 1) fun t ht => h t (by simp [ht])]
    rfl
end
end Hd
set_option Elab.async false
set_option linter.all false
set_option maxRecDepth 100000
set_option maxHeartbeats 4000000
namespace Hd
open PySem PySem.Spec L2 MP
variable {P : MP.Prog} [LibG P]
section
variable {fs ts : List PySem.Str} {sv : List SV} {sts : List Step}
def St37 (i : Nat) (fs ts : List PySem.Str) (sv : List SV) (M : Int) (full : Bool) (v4 v5 : Option W) : Sto := [some (.ref i), some (wW fs ts sv), some (.int M), some (.bl full), v4, v5]
def Inv37 (i : Nat) (fs ts : List PySem.Str) (sv : List SV) (M : Int) (full : Bool) (h0 : Hq) (t : Nat) (s' : Sto) (h' : Hq) : Prop := ∃ (sts : List Step) (v5 : Option W), s' = St37 i fs ts sv M full (some (.tup (sts.map Step.w))) v5 ∧ Eff i h0 h' ∧ sts.length = t ∧ PGood fs ts sv full sts
theorem body37 {n F T S : Nat} (hn : 6 ≤ n) {h0 h1 : Hq} {i : Nat} {M : Int} {full : Bool} {v5 : Option W} (he : Eff i h0 h1) (o : WOk F T S fs ts sv) (hF : 0 < F) (hT : 0 < T) (hF2 : F ≤ 100) (hT2 : T ≤ 100) (hS : S ≤ 3) (hst : sts.length ≤ 23) (g : PGood fs ts sv full sts) {TT : W → Hq → Prop} :
    SatS (evSs (gam P n) b__law_playbook_0 (St37 i fs ts sv M full (some (.tup (sts.map Step.w))) v5) h1) (Inv37 i fs ts sv M full h0 (sts.length + 1)) TT := by
  obtain ⟨_, h2, e1, r, he2⟩ := (ev_step (P := P) (n := n) hn (full := full) (sts := sts) he.src o hF hT hF2 hT2 hS (by omega) (fun s hs => (g.1 s hs).ok.deed)).ex
  obtain ⟨s, rfl, g2⟩ := g.snoc r
  have l1 : sts.length + 1 ≤ MP.line := by unfold MP.line; omega
  have vd : ∀ h, vw h s.w = s.w := fun _ => rfl
  unfold St37
  simp [b__law_playbook_0, e1, binW, l1]
  exact ⟨sts ++ [s], v5, by simp [St37], he.trans he2, by simp, g2⟩
def PbR (sv : List SV) (full : Bool) (w : W) : Prop := ∃ sts, w = pbW sv sts ∧ PBOk sv sts ∧ (full = true → dueF sv 0 sts = [])
theorem fits_encS (n : Nat) (p : SV) : W.fits n (encS p) = true := by
  have h4 := fits_strs n p.2
  unfold encS W.fits
  simp only [W.fitsL, h4, Bool.and_true]
  rfl
theorem fits_pb (n : Nat) (sv : List SV) (sts : List Step) : W.fits n (pbW sv sts) = true := by
  have h1 : W.fitsL n (sv.map encS) = true := by
    induction sv with
    | nil => rfl
    | cons p sv ih => simp only [List.map_cons, W.fitsL, ih, fits_encS, Bool.and_self]
  have h2 : W.fitsL n (sts.map Step.w) = true := by
    induction sts with
    | nil => rfl
    | cons p sts ih => simp only [List.map_cons, W.fitsL, ih, Step.fits, Bool.and_self]
  unfold pbW W.fits
  simp only [W.fitsL, W.fits, h1, h2, Bool.and_self]
theorem ev_playbook {n F T S : Nat} (hn : 7 ≤ n) {h : Hq} {i m : Nat} {M : Int} {full : Bool} (s : Src h i) (o : WOk F T S fs ts sv) (hM : M = m) (hm : m ≤ 23) (hF : 0 < F) (hT : 0 < T) (hF2 : F ≤ 4) (hT2 : T ≤ 6) (hS : S ≤ 3) :
    Sat ((gam P n).fn "_law_playbook" [.ref i, wW fs ts sv, .int M, .bl full] h) (fun w h' => PbR sv full w ∧ Eff i h h') := by
  refine Sat.callE (Q := PbR sv full) (by omega) LibG._law_playbook (by rfl) ?_
  obtain ⟨_, h1, e1, ⟨a, rfl, ha⟩, he1⟩ := (ev_draw (P := P) (n := n - 1) (by omega) (m := M + 1) s (by omega) (by omega)).ex
  obtain ⟨A, hA⟩ : ∃ A : Int, A = a := ⟨_, rfl⟩
  have ir := Rng.items (m := a) (by omega)
  rw [← hA] at e1 ir
  have lp : SatS (forLoop (.name 5) (fun s h => evSs (gam P (n - 1)) b__law_playbook_0 s h) (Rng 0 a) (St37 i fs ts sv M full (some (.tup [])) none) h1) (Inv37 i fs ts sv M full h1 a) (EndE i h (PbR sv full)) := by
    refine SatS.rng (Inv37 i fs ts sv M full h1) (fun t s' h' ht z => ?_) ⟨[], none, rfl, he1.src.eff, rfl, ⟨fun s hs => by simp at hs, fun k s hs => by simp at hs⟩⟩ fun s' h' z => z
    obtain ⟨sts, v5, es, ee, el, eg⟩ := z
    subst es
    have e : (St37 i fs ts sv M full (some (.tup (sts.map Step.w))) v5).set 5 (some (.int (t : Int))) = St37 i fs ts sv M full (some (.tup (sts.map Step.w))) (some (.int (t : Int))) := rfl
    rw [e, ← el]
    exact body37 (by omega) ee o hF hT (by omega) (by omega) hS (by omega) eg
  unfold St37 at lp
  simp [fd__law_playbook, b__law_playbook, addW, e1, ir]
  refine SatS.seq (lp.imp (fun s' h' q => ?_) fun _ _ z => z)
  obtain ⟨sts, v5, q1, q2, q3, q4⟩ := q
  subst q1
  unfold St37
  simp [w_serv, w_vw]
  exact endE0 (he1.trans q2) ⟨sts, rfl, q4.pb o hF2 hT2 hS (by omega), fun z => dueF_nil 0 fun s hs => (q4.1 s hs).due z⟩ fun n => fits_pb n sv sts
end
end Hd
set_option Elab.async false
set_option linter.all false
set_option maxRecDepth 100000
set_option maxHeartbeats 4000000
namespace Hd
open PySem PySem.Spec L2 MP
variable {P : MP.Prog}
abbrev PB : Type := List SV × List Step
def encP (p : PB) : W := pbW p.1 p.2
def filesP (p : PB) : List PySem.Str := filesL p.1 p.2
def textsP (p : PB) : List PySem.Str := textsL p.2
theorem lf0 {G : Gam} {v0 v2 v3 v4 v5 v6 v7 v8 v10 v11 : Option W} {acc : List PySem.Str} {r : Rw} {h : Hq} {T : W → Hq → Prop} (hl : acc.length ≤ 5000) :
    SatS (evSs G b__law_files_0 [v0, some (.ref h.length), v2, v3, v4, v5, v6, v7, v8, some r.w, v10, v11] (h ++ [.lst (acc.map W.str)])) (fun s' h' => s' = [v0, some (.ref h.length), v2, v3, v4, v5, v6, v7, v8, some r.w, v10, v11] ∧ h' = h ++ [.lst ((acc ++ r.fs).map W.str)]) T := by
  have l1 : acc.length < MP.line := by unfold MP.line; omega
  have l2 : acc.length + 1 < MP.line := by unfold MP.line; omega
  cases r with
  | dd d => cases d <;> simp [b__law_files_0, Rw.w, Rw.fs, Deed.w, Deed.nm, Deed.its, Deed.fs, It.w, idxW, atI, ixN, cmpW, flatW, inD, eqvS, bmOk, bmW, l1, l2]
  | ff d => cases d <;> simp [b__law_files_0, Rw.w, Rw.fs, Fact.w, Fact.nm, Fact.its, Fact.fs, It.w, idxW, atI, ixN, cmpW, flatW, inD, eqvS, bmOk, bmW, l1, l2]
def LfS (v0 v2 v3 v4 v5 : Option W) (L : Nat) (v6 v7 v8 v9 v10 v11 : Option W) : Sto := [v0, some (.ref L), v2, v3, v4, v5, v6, v7, v8, v9, v10, v11]
theorem lf1 {G : Gam} {v0 v2 v3 v4 v5 v9 v10 v11 : Option W} {acc : List PySem.Str} {st : Step} {h : Hq} {T : W → Hq → Prop} (hw : st.whens.length ≤ 1000) (hl : acc.length + st.fs.length ≤ 3000) :
    SatS (evSs G b__law_files_1 (LfS v0 v2 v3 v4 v5 h.length (some st.deed.w) (some (.tup (st.whens.map condW))) (some (.tup (st.notify.map W.str))) v9 v10 v11) (h ++ [.lst (acc.map W.str)]))
      (fun s' h' => ∃ v9, s' = LfS v0 v2 v3 v4 v5 h.length (some st.deed.w) (some (.tup (st.whens.map condW))) (some (.tup (st.notify.map W.str))) v9 v10 v11 ∧ h' = h ++ [.lst ((acc ++ st.fs).map W.str)]) T := by
  have e1 := lc_enc (f := lcF G (.tup (.cons (.name 10) (.cons (.name 11) .nil))) [10, 11] .no (.var 11) [v0, some (.ref h.length), v2, v3, v4, v5, some st.deed.w, some (.tup (st.whens.map condW)), some (.tup (st.notify.map W.str)), v9, v10, v11]) (enc := condW) (g := fun q => q.2.w) (h := h ++ [.lst (acc.map W.str)]) (l := st.whens) (fun q hq => by simp [lcF, wipeS, condW]) (line_le hw)
  have l1 : 1 + st.whens.length ≤ MP.line := by unfold MP.line; omega
  have vd : ∀ h, vw h st.deed.w = st.deed.w := fun _ => rfl
  unfold b__law_files_1 LfS
  refine SatS.cons ?_
  simp [itemsW, srcW, e1, binW, l1]
  rw [← rows_w]
  refine SatS.over (fun don s hh => ∃ v9, s = LfS v0 v2 v3 v4 v5 h.length (some st.deed.w) (some (.tup (st.whens.map condW))) (some (.tup (st.notify.map W.str))) v9 v10 v11 ∧ hh = h ++ [.lst ((acc ++ don.flatMap Rw.fs).map W.str)])
    (fun don r rest s hh e z => ?_) ⟨_, rfl, by simp⟩ (fun s hh z => ?_)
  · obtain ⟨v9, rfl, rfl⟩ := z
    have hlen : (acc ++ don.flatMap Rw.fs).length ≤ 5000 := by
      have : st.fs = don.flatMap Rw.fs ++ (r :: rest).flatMap Rw.fs := by unfold Step.fs; rw [e, List.flatMap_append]
      have := congrArg List.length this
      rw [List.length_append] at this ⊢
      omega
    refine ⟨_, by simp [LfS]; rfl, ?_⟩
    exact (lf0 (r := r) hlen).imp (fun s' h' z => ⟨_, z.1, by rw [z.2]; simp⟩) fun _ _ z => z
  · obtain ⟨v9, rfl, rfl⟩ := z
    simp [LfS, Step.fs]
def rdsL (l : List SV) : List PySem.Str := l.flatMap fun p => p.2
theorem rdsL_app (a b : List SV) : rdsL (a ++ b) = rdsL a ++ rdsL b := by unfold rdsL; rw [List.flatMap_append]
theorem rdsL_cons (a : SV) (b : List SV) : rdsL (a :: b) = a.2 ++ rdsL b := by unfold rdsL; rw [List.flatMap_cons]
theorem filesL_eq (sv : List SV) (sts : List Step) : filesL sv sts = rdsL sv ++ sts.flatMap Step.fs := rfl
/-- how found stands: it is the last thing of the heap -/
def LfI (ps : W) (h0 : Hq) (v2 v3 v4 v5 : Option W) (fs : List PySem.Str) (s : Sto) (h : Hq) : Prop := ∃ (L : Nat) (hh l : Hq) (v6 v7 v8 v9 : Option W), hh.length = L ∧ hh = h0 ++ l ∧ h = hh ++ [.lst (fs.map W.str)] ∧ s = LfS (some ps) v2 v3 v4 v5 L v6 v7 v8 v9 none none
theorem lf3a {G : Gam} {ps : W} {v2 v3 : Option W} {p : SV} {acc : List PySem.Str} {h0 h : Hq} {s : Sto} {T : W → Hq → Prop} (hz : LfI ps h0 v2 v3 (some (.str p.1)) (some (.tup (p.2.map W.str))) acc s h) (hl : acc.length + p.2.length ≤ 3000) :
    SatS (evSs G b__law_files_2 s h) (LfI ps h0 v2 v3 (some (.str p.1)) (some (.tup (p.2.map W.str))) (acc ++ p.2)) T := by
  obtain ⟨L, hh, l, v6, v7, v8, v9, e1, e2, rfl, rfl⟩ := hz
  have hlen : acc.length + p.2.length ≤ MP.line := by unfold MP.line; omega
  simp [b__law_files_2, LfS, vw_last e1, b1W, seqOf, hlen]
  exact ⟨L + 1, hh ++ [.lst (acc.map W.str)], l ++ [.lst (acc.map W.str)], v6, v7, v8, v9, by simp [e1], by simp [e2], by simp, by simp [LfS, e1]⟩
theorem lf3 {G : Gam} {ps : W} {sv : List SV} {sts : List Step} {v4 v5 : Option W} {acc : List PySem.Str} {h0 h : Hq} {s : Sto} {T : W → Hq → Prop} (hz : LfI ps h0 (some (.tup (sv.map encS))) (some (.tup (sts.map Step.w))) v4 v5 acc s h) (hw : ∀ s ∈ sts, s.whens.length ≤ 1000) (hl : acc.length + (filesL sv sts).length ≤ 3000) :
    SatS (evSs G b__law_files_3 s h) (fun s' h' => ∃ v4 v5, LfI ps h0 (some (.tup (sv.map encS))) (some (.tup (sts.map Step.w))) v4 v5 (acc ++ filesL sv sts) s' h') T := by
  rw [filesL_eq, List.length_append] at hl
  unfold b__law_files_3
  refine SatS.cons (SatS.imp (N := fun s h => ∃ v4 v5, LfI ps h0 (some (.tup (sv.map encS))) (some (.tup (sts.map Step.w))) v4 v5 (acc ++ rdsL sv) s h) (T := T) ?_ (fun s' h' z => ?_) fun _ _ z => z)
  · have e2 : evEs G (.cons (.var 2) .nil) s h = .ok [.tup (sv.map encS)] h := by
      obtain ⟨L, hh, l, v6, v7, v8, v9, e1, e2, rfl, rfl⟩ := hz
      simp [LfS]
    rw [x_for, e2]
    simp only [x_toS_ok, itemsW, srcW]
    refine SatS.over (fun don s h => ∃ v4 v5, LfI ps h0 (some (.tup (sv.map encS))) (some (.tup (sts.map Step.w))) v4 v5 (acc ++ rdsL don) s h)
      (fun don p rest s hh e z => ?_) ⟨v4, v5, by simpa [rdsL] using hz⟩ (fun s hh z => z)
    obtain ⟨v4, v5, L, hh, l, v6, v7, v8, v9, e1, e2, rfl, rfl⟩ := z
    have hlen : (acc ++ rdsL don).length + p.2.length ≤ 3000 := by
      rw [e, rdsL_app, rdsL_cons] at hl
      simp at hl ⊢
      omega
    refine ⟨LfS (some ps) (some (.tup (sv.map encS))) (some (.tup (sts.map Step.w))) (some (.str p.1)) (some (.tup (p.2.map W.str))) L v6 v7 v8 v9 none none, by simp [LfS, encS], ?_⟩
    refine (lf3a (G := G) (p := p) (T := T) ⟨L, hh, l, v6, v7, v8, v9, e1, e2, rfl, rfl⟩ hlen).imp (fun s' h' z => ⟨some (.str p.1), some (.tup (p.2.map W.str)), ?_⟩) fun _ _ z => z
    rw [rdsL_app, ← List.append_assoc]
    simpa [rdsL] using z
  · obtain ⟨v4, v5, hz⟩ := z
    refine SatS.cons (SatS.imp (N := fun s h => ∃ v4 v5, LfI ps h0 (some (.tup (sv.map encS))) (some (.tup (sts.map Step.w))) v4 v5 (acc ++ filesL sv sts) s h) (T := T) ?_ (fun s' h' z => SatS.done z) (fun _ _ z => z))
    have e2 : evEs G (.cons (.var 3) .nil) s' h' = .ok [.tup (sts.map Step.w)] h' := by
      obtain ⟨L, hh, l, v6, v7, v8, v9, e1, e2, rfl, rfl⟩ := hz
      simp [LfS]
    rw [x_for, e2]
    simp only [x_toS_ok, itemsW, srcW]
    refine SatS.over (fun don s h => LfI ps h0 (some (.tup (sv.map encS))) (some (.tup (sts.map Step.w))) v4 v5 (acc ++ rdsL sv ++ don.flatMap Step.fs) s h)
      (fun don st rest s hh e z => ?_) (by simpa using hz) (fun s hh z => ⟨v4, v5, by simpa [filesL_eq] using z⟩)
    obtain ⟨L, hh, l, v6, v7, v8, v9, e1, e2, rfl, rfl⟩ := z
    have hm : st ∈ sts := by rw [e]; simp
    have hlen : (acc ++ rdsL sv ++ don.flatMap Step.fs).length + st.fs.length ≤ 3000 := by
      have := congrArg (fun l => (List.flatMap Step.fs l).length) e
      simp only [List.flatMap_append, List.flatMap_cons, List.length_append] at this
      rw [List.length_append, List.length_append]
      omega
    refine ⟨LfS (some ps) (some (.tup (sv.map encS))) (some (.tup (sts.map Step.w))) v4 v5 L (some st.deed.w) (some (.tup (st.whens.map condW))) (some (.tup (st.notify.map W.str))) v9 none none, by simp [LfS, Step.w], ?_⟩
    have := lf1 (G := G) (v0 := some ps) (v2 := some (.tup (sv.map encS))) (v3 := some (.tup (sts.map Step.w))) (v4 := v4) (v5 := v5) (v9 := v9) (v10 := none) (v11 := none) (st := st) (h := hh) (T := T) (hw st hm) hlen
    rw [e1] at this
    refine this.imp (fun s' h' z => ?_) fun _ _ z => z
    obtain ⟨v9, rfl, rfl⟩ := z
    exact ⟨L, hh, l, _, _, _, v9, e1, e2, by simp, rfl⟩
end Hd
set_option Elab.async false
set_option linter.all false
set_option maxRecDepth 100000
set_option maxHeartbeats 4000000
namespace Hd
open PySem PySem.Spec L2 MP
variable {P : MP.Prog}
theorem ev_law_files [HasF P "_law_files" fd__law_files] {n : Nat} (hn : 1 ≤ n) {ps : List PB} {h : Hq} (hw : ∀ p ∈ ps, ∀ s ∈ p.2, s.whens.length ≤ 1000) (hsz : (ps.flatMap filesP).length ≤ 3000) :
    (gam P n).fn "_law_files" [.lst (ps.map encP)] h = .ok (.lst ((ssetL (ps.flatMap filesP)).map W.str)) h := by
  refine pure_callL hn (HasF.lk (P := P) (f := "_law_files") (fd := fd__law_files)) (by rfl) ?_ (fits_sset _ _)
  show SatS (evSs _ b__law_files _ _) _ _
  unfold b__law_files
  refine SatS.cons ?_
  simp [fd__law_files, itemsW, srcW]
  refine SatS.seq (SatS.over (fun don s hh => ∃ v2 v3 v4 v5, LfI (.lst (ps.map encP)) h v2 v3 v4 v5 (don.flatMap filesP) s hh)
    (fun don p rest s hh e z => ?_) ⟨none, none, none, none, h.length, h, [], none, none, none, none, rfl, by simp, by simp, by simp [LfS]⟩ (fun s hh z => ?_))
  · obtain ⟨v2, v3, v4, v5, L, hh, l, v6, v7, v8, v9, e1, e2, rfl, rfl⟩ := z
    have hm : p ∈ ps := by rw [e]; simp
    have hlen : (don.flatMap filesP).length + (filesL p.1 p.2).length ≤ 3000 := by
      have := congrArg (fun l => (List.flatMap filesP l).length) e
      simp only [List.flatMap_append, List.flatMap_cons, List.length_append] at this
      unfold filesP at *
      omega
    refine ⟨LfS (some (.lst (ps.map encP))) (some (.tup (p.1.map encS))) (some (.tup (p.2.map Step.w))) v4 v5 L v6 v7 v8 v9 none none, by simp [LfS, encP, pbW], ?_⟩
    refine (lf3 (G := gam P (n - 1)) ⟨L, hh, l, v6, v7, v8, v9, e1, e2, rfl, rfl⟩ (hw p hm) hlen).imp (fun s' h' z => ?_) fun _ _ z => z
    obtain ⟨v4, v5, z⟩ := z
    refine ⟨some (.tup (p.1.map encS)), some (.tup (p.2.map Step.w)), v4, v5, ?_⟩
    rw [List.flatMap_append]
    simpa [filesP] using z
  · obtain ⟨v2, v3, v4, v5, L, hh, l, v6, v7, v8, v9, e1, e2, rfl, rfl⟩ := z
    have hz : (ps.flatMap filesP).length < 4000 := by omega
    simp only [LfS]
    obtain ⟨fl, hfl⟩ : ∃ fl, fl = ps.flatMap filesP := ⟨_, rfl⟩
    rw [← hfl] at hz
    rw [← hfl]
    simp only [x_ss_cons, x_ret, x_sset, x_var, List.getElem?_cons_succ, List.getElem?_cons_zero, x_bind_ok, vw_last e1, ssetW, strs_map', Option.bind_some, hz, if_true, x_opt, x_toS_ok, x_seq_rt, s_rt]
    exact ⟨rfl, l ++ [O.lst (fl.map W.str)], by rw [e2]; simp⟩
/-! ### _law_known -/
theorem lk0 {G : Gam} {v0 v2 v3 v4 v5 v6 v8 v9 : Option W} {acc : List PySem.Str} {r : Rw} {h : Hq} {T : W → Hq → Prop} (hl : acc.length ≤ 5000) :
    SatS (evSs G b__law_known_0 [v0, some (.ref h.length), v2, v3, v4, v5, v6, some r.w, v8, v9] (h ++ [.lst (acc.map W.str)])) (fun s' h' => s' = [v0, some (.ref h.length), v2, v3, v4, v5, v6, some r.w, v8, v9] ∧ h' = h ++ [.lst ((acc ++ r.ts).map W.str)]) T := by
  have l1 : acc.length < MP.line := by unfold MP.line; omega
  cases r with
  | dd d => cases d <;> simp [b__law_known_0, Rw.w, Rw.ts, Deed.w, Deed.nm, Deed.its, Deed.ts, It.w, idxW, atI, ixN, cmpW, flatW, inD, eqvS, bmOk, bmW, l1]
  | ff d => cases d <;> simp [b__law_known_0, Rw.w, Rw.ts, Fact.w, Fact.nm, Fact.its, Fact.ts, It.w, idxW, atI, ixN, cmpW, flatW, inD, eqvS, bmOk, bmW, l1]
def LkS (v0 : Option W) (L : Nat) (v2 v3 v4 v5 v6 v7 : Option W) : Sto := [v0, some (.ref L), v2, v3, v4, v5, v6, v7, none, none]
theorem lk1 {G : Gam} {v0 v2 v3 v7 : Option W} {acc : List PySem.Str} {st : Step} {h : Hq} {T : W → Hq → Prop} (hw : st.whens.length ≤ 1000) (hl : acc.length + st.ts.length ≤ 3000) :
    SatS (evSs G b__law_known_1 (LkS v0 h.length v2 v3 (some st.deed.w) (some (.tup (st.whens.map condW))) (some (.tup (st.notify.map W.str))) v7) (h ++ [.lst (acc.map W.str)]))
      (fun s' h' => ∃ v7, s' = LkS v0 h.length v2 v3 (some st.deed.w) (some (.tup (st.whens.map condW))) (some (.tup (st.notify.map W.str))) v7 ∧ h' = h ++ [.lst ((acc ++ st.ts).map W.str)]) T := by
  have e1 := lc_enc (f := lcF G (.tup (.cons (.name 8) (.cons (.name 9) .nil))) [8, 9] .no (.var 9) [v0, some (.ref h.length), v2, v3, some st.deed.w, some (.tup (st.whens.map condW)), some (.tup (st.notify.map W.str)), v7, none, none]) (enc := condW) (g := fun q => q.2.w) (h := h ++ [.lst (acc.map W.str)]) (l := st.whens) (fun q hq => by simp [lcF, wipeS, condW]) (line_le hw)
  have l1 : 1 + st.whens.length ≤ MP.line := by unfold MP.line; omega
  have vd : ∀ h, vw h st.deed.w = st.deed.w := fun _ => rfl
  unfold b__law_known_1 LkS
  refine SatS.cons ?_
  simp [itemsW, srcW, e1, binW, l1]
  rw [← rows_w]
  refine SatS.over (fun don s hh => ∃ v7, s = LkS v0 h.length v2 v3 (some st.deed.w) (some (.tup (st.whens.map condW))) (some (.tup (st.notify.map W.str))) v7 ∧ hh = h ++ [.lst ((acc ++ don.flatMap Rw.ts).map W.str)])
    (fun don r rest s hh e z => ?_) ⟨_, rfl, by simp⟩ (fun s hh z => ?_)
  · obtain ⟨v7, rfl, rfl⟩ := z
    have hlen : (acc ++ don.flatMap Rw.ts).length ≤ 5000 := by
      have : st.ts = don.flatMap Rw.ts ++ (r :: rest).flatMap Rw.ts := by unfold Step.ts; rw [e, List.flatMap_append]
      have := congrArg List.length this
      rw [List.length_append] at this ⊢
      omega
    refine ⟨_, by simp [LkS]; rfl, ?_⟩
    exact (lk0 (r := r) hlen).imp (fun s' h' z => ⟨_, z.1, by rw [z.2]; simp⟩) fun _ _ z => z
  · obtain ⟨v7, rfl, rfl⟩ := z
    simp [LkS, Step.ts]
def LkI (ps : W) (h : Hq) (fs : List PySem.Str) (s : Sto) (hh : Hq) : Prop := ∃ v2 v3 v4 v5 v6 v7, s = LkS (some ps) h.length v2 v3 v4 v5 v6 v7 ∧ hh = h ++ [.lst (fs.map W.str)]
theorem ev_law_known [HasF P "_law_known" fd__law_known] {n : Nat} (hn : 1 ≤ n) {ps : List PB} {h : Hq} (hw : ∀ p ∈ ps, ∀ s ∈ p.2, s.whens.length ≤ 1000) (hsz : (ps.flatMap textsP).length ≤ 3000) :
    (gam P n).fn "_law_known" [.lst (ps.map encP)] h = .ok (.lst ((ssetL (ps.flatMap textsP)).map W.str)) h := by
  refine pure_callL hn (HasF.lk (P := P) (f := "_law_known") (fd := fd__law_known)) (by rfl) ?_ (fits_sset _ _)
  show SatS (evSs _ b__law_known _ _) _ _
  unfold b__law_known
  refine SatS.cons ?_
  simp [fd__law_known, itemsW, srcW]
  refine SatS.seq (SatS.over (fun don s hh => LkI (.lst (ps.map encP)) h (don.flatMap textsP) s hh)
    (fun don p rest s hh e z => ?_) ⟨none, none, none, none, none, none, by simp [LkS], by simp⟩ (fun s hh z => ?_))
  · obtain ⟨v2, v3, v4, v5, v6, v7, rfl, rfl⟩ := z
    have hm : p ∈ ps := by rw [e]; simp
    have hlen : (don.flatMap textsP).length + (textsL p.2).length ≤ 3000 := by
      have := congrArg (fun l => (List.flatMap textsP l).length) e
      simp only [List.flatMap_append, List.flatMap_cons, List.length_append] at this
      unfold textsP at *
      omega
    refine ⟨LkS (some (.lst (ps.map encP))) h.length (some (.tup (p.1.map encS))) (some (.tup (p.2.map Step.w))) v4 v5 v6 v7, by simp [LkS, encP, pbW], ?_⟩
    unfold b__law_known_2
    refine SatS.cons ?_
    simp [LkS, itemsW, srcW]
    refine SatS.over (fun don2 s hh => ∃ v4 v5 v6 v7, s = LkS (some (.lst (ps.map encP))) h.length (some (.tup (p.1.map encS))) (some (.tup (p.2.map Step.w))) v4 v5 v6 v7 ∧ hh = h ++ [.lst ((don.flatMap textsP ++ don2.flatMap Step.ts).map W.str)])
      (fun don2 st rest2 s hh e2 z => ?_) ⟨v4, v5, v6, v7, by simp [LkS], by simp⟩ (fun s hh z => ?_)
    · obtain ⟨v4, v5, v6, v7, rfl, rfl⟩ := z
      have hm2 : st ∈ p.2 := by rw [e2]; simp
      have hlen2 : (don.flatMap textsP ++ don2.flatMap Step.ts).length + st.ts.length ≤ 3000 := by
        have := congrArg (fun l => (List.flatMap Step.ts l).length) e2
        simp only [List.flatMap_append, List.flatMap_cons, List.length_append] at this
        rw [List.length_append]
        unfold textsL at hlen
        omega
      refine ⟨_, by simp [LkS, Step.w]; rfl, ?_⟩
      refine (lk1 (G := gam P (n - 1)) (v7 := v7) (hw p hm st hm2) hlen2).imp (fun s' h' z => ?_) fun _ _ z => z
      obtain ⟨v7, rfl, rfl⟩ := z
      exact ⟨_, _, _, v7, rfl, by simp⟩
    · obtain ⟨v4, v5, v6, v7, rfl, rfl⟩ := z
      simp
      exact ⟨_, _, v4, v5, v6, v7, rfl, by simp [textsP, textsL]⟩
  · obtain ⟨v2, v3, v4, v5, v6, v7, rfl, rfl⟩ := z
    have v : vw (h ++ [O.lst ((ps.flatMap textsP).map W.str)]) (.ref h.length) = .lst ((ps.flatMap textsP).map W.str) := by
      unfold vw
      simp
    have hz : (ps.flatMap textsP).length < 4000 := by omega
    simp only [LkS]
    obtain ⟨fl, hfl⟩ : ∃ fl, fl = ps.flatMap textsP := ⟨_, rfl⟩
    rw [← hfl] at hz v
    rw [← hfl]
    simp only [x_ss_cons, x_ret, x_sset, x_var, List.getElem?_cons_succ, List.getElem?_cons_zero, x_bind_ok, v, ssetW, strs_map', Option.bind_some, hz, if_true, x_opt, x_toS_ok, x_seq_rt, s_rt]
    exact ⟨rfl, [O.lst (fl.map W.str)], rfl⟩
end Hd
set_option Elab.async false
set_option linter.all false
set_option maxRecDepth 100000
set_option maxHeartbeats 4000000
namespace Hd
open PySem PySem.Spec L2 MP
theorem due0 {G : Gam} {v0 v1 v3 v4 v5 v6 v7 v9 : Option W} {s : Step} {reads : List PySem.Str} {nm : PySem.Str} {k : Nat} {acc : List (Nat × PySem.Str)} {h : Hq} {T : W → Hq → Prop} (hl : acc.length < 10000) :
    SatS (evSs G b_law_0 [v0, v1, some s.w, v3, v4, v5, v6, v7, some (.ref h.length), v9, some (.int k), some (.str nm), some (.tup (reads.map W.str))] (h ++ [.lst (acc.map dW)])) (fun s' h' => s' = [v0, v1, some s.w, v3, v4, v5, v6, v7, some (.ref h.length), v9, some (.int k), some (.str nm), some (.tup (reads.map W.str))] ∧
      h' = h ++ [.lst ((acc ++ if s.deed.must reads && !decide (nm ∈ s.notify) then [(k, nm)] else []).map dW)]) T := by
  have hl2 : acc.length < MP.line := by unfold MP.line; omega
  obtain ⟨d, wh, notify⟩ := s
  dsimp only
  have c2 : ∀ f : PySem.Str, cmpW .isin (.str f) (.tup (reads.map W.str)) = some (decide (f ∈ reads)) := fun f => by
    simp only [cmpW, flatW, flat_strs, inD_strs]; rfl
  have c3 : cmpW .notin (.str nm) (.tup (notify.map W.str)) = some (!decide (nm ∈ notify)) := by
    simp only [cmpW, flatW, flat_strs, inD_strs]; rfl
  have c1 : cmpW .isin (.str d.nm) (.tup [.str "put", .str "drop", .str "copy"]) = some (match d with
      | .put .. => true
      | .drop _ => true
      | .copy .. => true
      | _ => false) := by cases d <;> simp [cmpW, flatW, inD, eqvS, Deed.nm]
  cases d with
  | restart s1 => simp only [Deed.nm] at c1; simp [b_law_0, Step.w, Deed.w, Deed.nm, Deed.its, It.w, idxW, atI, ixN, c1, Deed.must]
  | flush => simp only [Deed.nm] at c1; simp [b_law_0, Step.w, Deed.w, Deed.nm, Deed.its, It.w, idxW, atI, ixN, c1, Deed.must]
  | put f t =>
    simp only [Deed.nm] at c1
    cases hf : decide (f ∈ reads) <;> cases hm : decide (nm ∈ notify) <;> simp [b_law_0, Step.w, Deed.w, Deed.nm, Deed.its, It.w, idxW, atI, ixN, c1, c2, c3, Deed.must, hf, hm, bmOk, bmW, hl2, dW]
  | drop f =>
    simp only [Deed.nm] at c1
    cases hf : decide (f ∈ reads) <;> cases hm : decide (nm ∈ notify) <;> simp [b_law_0, Step.w, Deed.w, Deed.nm, Deed.its, It.w, idxW, atI, ixN, c1, c2, c3, Deed.must, hf, hm, bmOk, bmW, hl2, dW]
  | copy f t =>
    simp only [Deed.nm] at c1
    cases hf : decide (f ∈ reads) <;> cases hm : decide (nm ∈ notify) <;> simp [b_law_0, Step.w, Deed.w, Deed.nm, Deed.its, It.w, idxW, atI, ixN, c1, c2, c3, Deed.must, hf, hm, bmOk, bmW, hl2, dW]
def LwS (v0 v1 v2 v3 v4 v5 v6 : Option W) (sv : List SV) (sts : List Step) (L : Nat) (v9 v10 v11 v12 : Option W) : Sto := [v0, v1, v2, v3, v4, v5, v6, some (pbW sv sts), some (.ref L), v9, v10, v11, v12]
theorem due1 {G : Gam} {v0 v1 v3 v4 v5 v6 v9 v11 v12 : Option W} {sv : List SV} {sts : List Step} {s : Step} {k : Nat} {acc : List (Nat × PySem.Str)} {h : Hq} {T : W → Hq → Prop} (hl : acc.length + sv.length < 10000) :
    SatS (evSs G b_law_1 (LwS v0 v1 (some s.w) v3 v4 v5 v6 sv sts h.length v9 (some (.int k)) v11 v12) (h ++ [.lst (acc.map dW)])) (fun s' h' => (∃ v11 v12, s' = LwS v0 v1 (some s.w) v3 v4 v5 v6 sv sts h.length v9 (some (.int k)) v11 v12) ∧
      h' = h ++ [.lst ((acc ++ dueS sv k s).map dW)]) T := by
  unfold b_law_1 LwS
  refine SatS.cons ?_
  simp [pbW, idxW, atI, ixN, itemsW, srcW]
  refine SatS.over (fun don s' h' => (∃ v11 v12, s' = LwS v0 v1 (some s.w) v3 v4 v5 v6 sv sts h.length v9 (some (.int k)) v11 v12) ∧ h' = h ++ [.lst ((acc ++ dueS don k s).map dW)])
    (fun don p rest s' h' e z => ?_) ⟨⟨v11, v12, by simp [LwS, pbW]⟩, by simp [dueS]⟩ (fun s' h' z => ?_)
  · obtain ⟨⟨v11, v12, rfl⟩, rfl⟩ := z
    refine ⟨_, by simp [encS, LwS]; rfl, ?_⟩
    have := due0 (G := G) (v0 := v0) (v1 := v1) (v3 := v3) (v4 := v4) (v5 := v5) (v6 := v6) (v7 := some (pbW sv sts)) (v9 := v9) (s := s) (reads := p.2) (nm := p.1) (k := k) (acc := acc ++ dueS don k s) (h := h) (T := T) (by
        have := dueS_len don k s
        rw [e] at hl
        simp at hl ⊢
        omega)
    refine this.imp (fun s' h' z => ⟨⟨some (.str p.1), some (.tup (p.2.map W.str)), z.1⟩, ?_⟩) fun _ _ z => z
    rw [z.2, dueS_append, ← List.append_assoc]
    congr 5
    cases hh : (s.deed.must p.2 && !decide (p.1 ∈ s.notify)) <;> simp [dueS, hh]
  · obtain ⟨⟨v11, v12, rfl⟩, rfl⟩ := z
    simp [LwS, pbW]
theorem due2 {G : Gam} {v0 v1 v3 v4 v5 v6 v9 : Option W} {sv : List SV} {sts : List Step} {h : Hq} {T : W → Hq → Prop} {v2 v10 v11 v12 : Option W} (hsv : sv.length ≤ 3) (hst : sts.length ≤ 24) :
    SatS (forLoop (.tup (.cons (.name 10) (.cons (.name 2) .nil))) (fun s h => evSs G b_law_1 s h) ((sts.map Step.w).zipIdx.map fun p => W.tup [.int p.2, p.1]) (LwS v0 v1 v2 v3 v4 v5 v6 sv sts h.length v9 v10 v11 v12) (h ++ [.lst []])) (fun s' h' => (∃ v2 v10 v11 v12, s' = LwS v0 v1 v2 v3 v4 v5 v6 sv sts h.length v9 v10 v11 v12) ∧
      h' = h ++ [.lst ((dueF sv 0 sts).map dW)]) T := by
  refine SatS.overE (fun don s' h' => (∃ v2 v10 v11 v12, s' = LwS v0 v1 v2 v3 v4 v5 v6 sv sts h.length v9 v10 v11 v12) ∧ h' = h ++ [.lst ((dueF sv 0 don).map dW)])
    (fun don s rest s' h' e z => ?_) ⟨⟨v2, v10, v11, v12, rfl⟩, by simp [dueF]⟩ (fun s' h' z => z)
  obtain ⟨⟨v2, v10, v11, v12, rfl⟩, rfl⟩ := z
  refine ⟨LwS v0 v1 (some s.w) v3 v4 v5 v6 sv sts h.length v9 (some (.int (don.length : Nat))) v11 v12, by simp [LwS], ?_⟩
  refine (due1 (by
    have h1 := dueF_len (sv := sv) don 0
    have h2 : don.length ≤ 24 := by rw [e] at hst; simp at hst; omega
    have h3 : don.length * sv.length ≤ 24 * 3 := Nat.mul_le_mul h2 hsv
    omega)).imp (fun s' h' z => ?_) fun _ _ z => z
  obtain ⟨⟨v11, v12, rfl⟩, rfl⟩ := z
  refine ⟨⟨_, _, _, _, rfl⟩, ?_⟩
  rw [dueF_append]; simp [dueF]
end Hd
set_option Elab.async false
set_option linter.all false
set_option maxRecDepth 100000
set_option maxHeartbeats 4000000
namespace Hd
open PySem PySem.Spec L2 MP
instance : LibA P := ⟨rfl, rfl, rfl, rfl, rfl, rfl, rfl, rfl, rfl, rfl, rfl, rfl, rfl, rfl, rfl, rfl, rfl, rfl, rfl⟩
instance : LibG P := ⟨rfl, rfl, rfl, rfl, rfl, rfl, rfl, rfl, rfl, rfl⟩
instance : HasF P "need_playbook" fd_need_playbook := ⟨rfl⟩
instance : HasF P "files_of" fd_files_of := ⟨rfl⟩
instance : HasF P "texts_of" fd_texts_of := ⟨rfl⟩
instance : HasF P "unnotified" fd_unnotified := ⟨rfl⟩
instance : HasF P "_law_files" fd__law_files := ⟨rfl⟩
instance : HasF P "_law_known" fd__law_known := ⟨rfl⟩
theorem strOk_it {names : List PySem.Str} {k z : PySem.Str} (h : It.ok names k (.s z) = true) : PyData.strOk z = true := by
  unfold It.ok at h
  simp only [Bool.and_eq_true] at h
  exact h.2.1
theorem Deed.fs_ok {names : List PySem.Str} {d : Deed} (h : d.ok names) : (∀ x ∈ d.fs, PyData.strOk x = true) ∧ ∀ x ∈ d.ts, PyData.strOk x = true := by
  unfold Deed.ok at h
  cases d <;> simp [Deed.ks, Deed.its] at h <;> simp [Deed.fs, Deed.ts] <;> first | exact ⟨strOk_it h.1, strOk_it h.2⟩ | exact strOk_it h
theorem Fact.fs_ok {names : List PySem.Str} {d : Fact} (h : d.ok names) : (∀ x ∈ d.fs, PyData.strOk x = true) ∧ ∀ x ∈ d.ts, PyData.strOk x = true := by
  unfold Fact.ok at h
  cases d <;> simp [Fact.ks, Fact.its] at h <;> simp [Fact.fs, Fact.ts] <;> first | exact ⟨strOk_it h.1, strOk_it h.2⟩ | exact strOk_it h
theorem Step.fs_ok {names : List PySem.Str} {s : Step} (h : s.Ok names) : (∀ x ∈ s.fs, PyData.strOk x = true) ∧ ∀ x ∈ s.ts, PyData.strOk x = true := by
  constructor
  · intro x hx
    obtain ⟨r, hr, hx⟩ := List.mem_flatMap.mp hx
    rcases rows_mem hr with rfl | ⟨p, hp, rfl⟩
    · exact (Deed.fs_ok h.deed).1 x hx
    · exact (Fact.fs_ok (h.facts p hp)).1 x hx
  · intro x hx
    obtain ⟨r, hr, hx⟩ := List.mem_flatMap.mp hx
    rcases rows_mem hr with rfl | ⟨p, hp, rfl⟩
    · exact (Deed.fs_ok h.deed).2 x hx
    · exact (Fact.fs_ok (h.facts p hp)).2 x hx
section
variable {sv : List SV} {sts : List Step}
theorem PBOk.fsOk (o : PBOk sv sts) : ∀ x ∈ filesL sv sts, PyData.strOk x = true := fun x hx => by
  rcases List.mem_append.mp hx with hx | hx
  · obtain ⟨p, hp, hx⟩ := List.mem_flatMap.mp hx
    exact ((o.sok p hp).2.2.2 x hx).2
  · obtain ⟨s, hs, hx⟩ := List.mem_flatMap.mp hx
    exact (Step.fs_ok (o.step s hs).1).1 x hx
theorem PBOk.tsOk (o : PBOk sv sts) : ∀ x ∈ textsL sts, PyData.strOk x = true := fun x hx => by
  obtain ⟨s, hs, hx⟩ := List.mem_flatMap.mp hx
  exact (Step.fs_ok (o.step s hs).1).2 x hx
theorem mem_sset {l : List PySem.Str} {x : PySem.Str} : x ∈ ssetL l ↔ x ∈ l := by
  unfold ssetL
  rw [(List.mergeSort_perm _ _).mem_iff, List.mem_eraseDups]
theorem PBOk.shpF (o : PBOk sv sts) : (W.lst ((ssetL (filesL sv sts)).map W.str)).shp = true := shp_strs fun x hx => o.fsOk x (mem_sset.mp hx)
theorem PBOk.shpT (o : PBOk sv sts) : (W.lst ((ssetL (textsL sts)).map W.str)).shp = true := shp_strs fun x hx => o.tsOk x (mem_sset.mp hx)
end
theorem eqv_self {w : W} (h : w.shp = true) : PyData.eqv w.d w.d = true := PySem.SeqAt.eqv_refl _ (SeqAt.canLay_of_shaped h)
theorem ne_self {w : W} (h : w.shp = true) : cmpW .ne w w = some false := by simp [cmpW, h, eqv_self h]
def Lw (ns : List Int) (i : Nat) (s : Sto) (h : Hq) : Prop := ∃ v1 v2 v3 v5 v6 v7 v8 v9 v10 v11 v12, s = [some (.scr ns), v1, v2, v3, some (.ref i), v5, v6, v7, v8, v9, v10, v11, v12] ∧ Src h i
theorem turn_b {n : Nat} (hn : 12 ≤ n) {ns : List Int} {i t : Nat} {K : Int} {h : Hq} {v1 v2 v3 v6 v7 v8 v9 v10 v11 v12 : Option W} (s : Src h i) (hK : K = t) {T : W → Hq → Prop} :
    SatS (evSs (gam P n) b_law_2 [some (.scr ns), v1, v2, v3, some (.ref i), some (.int K), v6, v7, v8, v9, v10, v11, v12] h) (Lw ns i) T := by
  obtain ⟨_, h1, e1, ⟨a, rfl, ha⟩, he1⟩ := (ev_draw (P := P) (n := n) (by omega) (m := 4) s (by omega) (by omega)).ex
  obtain ⟨_, h2, e2, ⟨b, rfl, hb⟩, he2⟩ := (ev_draw (P := P) (n := n) (by omega) (m := 4) he1.src (by omega) (by omega)).ex
  obtain ⟨A, hA⟩ : ∃ A : Int, A = a := ⟨_, rfl⟩
  obtain ⟨B, hB⟩ : ∃ B : Int, B = b := ⟨_, rfl⟩
  rw [← hA] at e1
  rw [← hB] at e2
  obtain ⟨_, h3, e3, ⟨fs, ts, sv, rfl, wo⟩, he3⟩ := (ev_world (P := P) (n := n) (by omega) (f := 1 + a) (t := 3) (k := b) (F := 1 + A) (T := 3) (S := B) he2.src (by omega) rfl hB (by omega) (by omega)).ex
  obtain ⟨_, h4, e4, ⟨sts, rfl, o, hfull⟩, he4⟩ := (ev_playbook (P := P) (n := n) (by omega) (m := 6) (M := 6) (full := decide (K = 0)) he3.src wo rfl (by omega) (by omega) (by omega) (by omega) (by omega) (by omega)).ex
  have f1 := ev_files_of (P := P) (n := n) (by omega) (h := h4) o
  have f2 := ev_law_files (P := P) (n := n) (by omega) (ps := [(sv, sts)]) (h := h4) (by simpa using o.wh) (by simpa [filesP] using o.fz)
  have f3 := ev_texts_of (P := P) (n := n) (by omega) (h := h4) o
  have f4 := ev_law_known (P := P) (n := n) (by omega) (ps := [(sv, sts)]) (h := h4) (by simpa using o.wh) (by simpa [textsP] using o.tz)
  simp only [List.map_cons, List.map_nil, List.flatMap_cons, List.flatMap_nil, List.append_nil, encP, filesP, textsP] at f2 f4
  have c1 := ne_self o.shpF
  have c2 := ne_self o.shpT
  have vp : ∀ h, vw h (pbW sv sts) = pbW sv sts := fun _ => rfl
  have i0 : idxW (pbW sv sts) (.int 0) = some (.tup (sv.map encS)) := by simp [pbW, idxW, atI, ixN]
  have i1 : idxW (pbW sv sts) (.int 1) = some (.tup (sts.map Step.w)) := by simp [pbW, idxW, atI, ixN]
  obtain ⟨du, hdu⟩ : ∃ du, du = (dueF sv 0 sts).map dW := ⟨_, rfl⟩
  have so := sortOk_due (l := dueF sv 0 sts) (fun p hp => o.nmOk _ (dueF_mem 0 p hp))
  have sh := shp_due (l := dueF sv 0 sts) (fun p hp => o.nmOk _ (dueF_mem 0 p hp))
  have c3 := ne_self sh
  have lp := due2 (G := gam P n) (v0 := some (.scr ns)) (v1 := v1) (v2 := v2) (v3 := v3) (v4 := some (.ref i)) (v5 := some (.int K)) (v6 := some (wW fs ts sv)) (v9 := v9) (v10 := v10) (v11 := v11) (v12 := v12) (h := h4) (T := T) o.sv3 o.st24
  have u1 := ev_unnotified (P := P) (n := n) (by omega) (h := h4 ++ [.lst du]) o
  have u2 := ev_unnotified (P := P) (n := n) (by omega) (h := h4 ++ [.lst du, .lst du, .lst (sortW du ++ [.non])]) o
  rw [← hdu] at so sh c3 lp u1 u2
  have ll : (sortW du).length < MP.line := by
    have h1 := dueF_len (sv := sv) sts 0
    have h2 := o.st24
    have h3 := o.sv3
    have h4 : sts.length * sv.length ≤ 24 * 3 := Nat.mul_le_mul h2 h3
    have h5 : (sortW du).length = du.length := by
      unfold sortW
      split
      · rename_i ss e
        rw [List.length_map, List.length_mergeSort]
        have : ∀ (l : List W) (ss : List PySem.Str), strsOf l = some ss → ss.length = l.length := by
          intro l
          induction l with
          | nil => intro ss e; simp [strsOf] at e; subst e; rfl
          | cons a l ih =>
            intro ss e
            cases a <;> simp [strsOf] at e
            obtain ⟨s2, e2, rfl⟩ := e
            simp [ih _ e2]
        exact this _ _ e
      · rw [List.length_mergeSort]
    rw [h5, hdu, List.length_map]
    unfold MP.line
    omega
  have z0 : K = 0 → sortW du = [] := fun z => by
    have := hfull (by simp [z])
    rw [hdu, this]
    simp [sortW, strsOf]
  have heff := ((he1.trans he2).trans he3).trans he4
  unfold b_law_2
  simp only [x_ss_cons, x_asg, x_call, x_es_cons, x_es_nil, x_var, List.getElem?_cons_succ, List.getElem?_cons_zero, x_bind_ok, x_cst, x_bin, e1, e2, e3, x_vw_int, addW, x_opt, x_toS_ok, x_tg, x_asg_name, List.set_cons_succ, List.set_cons_zero, x_seq_nx, x_cmp, cmpW, shp_int, Bool.and_self, if_true, eqv_int, e4]
  simp only [x_ife, x_or, x_cmp, x_call, x_es_cons, x_es_nil, x_var, List.getElem?_cons_succ, List.getElem?_cons_zero, x_bind_ok, f1, x_lst, f2, x_vw_lst, c1, x_opt, x_tst, f3, f4, c2, x_toS_ok, x_ss_nil, x_seq_nx, x_asg, x_mlst, x_tg, x_asg_name, List.set_cons_succ, List.set_cons_zero, x_for, x_idx, x_cst, vp, i1, itemsW, srcW]
  refine SatS.seq (lp.imp (fun s' h' z => ?_) fun _ _ z => z)
  obtain ⟨⟨v2, v10, v11, v12, rfl⟩, rfl⟩ := z
  obtain ⟨so_, hso⟩ : ∃ so_, so_ = sortW du := ⟨_, rfl⟩
  rw [← hso] at u1 u2 c3 ll z0 sh
  obtain ⟨L, hL⟩ : ∃ L, L = h4.length := ⟨_, rfl⟩
  obtain ⟨H2, hH2⟩ : ∃ H, H = h4 ++ [O.lst du] := ⟨_, rfl⟩
  obtain ⟨H3, hH3⟩ : ∃ H, H = h4 ++ [O.lst du, .lst du, .lst so_] := ⟨_, rfl⟩
  obtain ⟨H4, hH4⟩ : ∃ H, H = h4 ++ [O.lst du, .lst du, .lst (so_ ++ [.non])] := ⟨_, rfl⟩
  obtain ⟨H5, hH5⟩ : ∃ H, H = h4 ++ [O.lst du, .lst du, .lst (so_ ++ [.non]), .lst du, .lst so_] := ⟨_, rfl⟩
  have u1' : (gam P n).fn "unnotified" [pbW sv sts] H2 = .ok (.ref (L + 2)) H3 := by rw [hH2, u1, hH3, hL]; simp
  have u2' : (gam P n).fn "unnotified" [pbW sv sts] H4 = .ok (.ref (L + 4)) H5 := by rw [hH4, u2, hH5, hL]; simp
  have a1 : vw H3 (.ref L) = .lst du := by simp [vw, hH3, hL]
  have a2 : vw H3 (.ref (L + 2)) = .lst so_ := by simp [vw, hH3, hL]
  have a3 : H3[L + 2]? = some (.lst so_) := by simp [hH3, hL]
  have a4 : H3.set (L + 2) (.lst (so_ ++ [.non])) = H4 := by simp [hH3, hH4, hL]
  have a5 : vw H5 (.ref L) = .lst du := by simp [vw, hH5, hL]
  have a6 : vw H5 (.ref (L + 4)) = .lst so_ := by simp [vw, hH5, hL]
  have shn : (W.lst ([] : List W)).shp = true := rfl
  have e0 : PyData.eqv (W.lst so_).d (W.lst []).d = so_.isEmpty := eqv_nil
  have z1 : (decide (K = 0) && !so_.isEmpty) = false := by
    by_cases z : K = 0
    · rw [z0 z]; simp
    · simp [z]
  have fin : Lw ns i (LwS (some (.scr ns)) v1 v2 v3 (some (.ref i)) (some (.int K)) (some (wW fs ts sv)) sv sts L (some (.ref (L + 2))) v10 v11 v12) H5 := by
    refine ⟨_, _, _, _, _, _, _, _, _, _, _, rfl, ?_⟩
    rw [hH5]; exact he4.src.app
  rw [← hH2, ← hL]
  clear u1 u2 hH2 hH3 hH4 hH5 lp
  unfold LwS at *
  simp only [x_ss_cons, x_asg, x_call, x_es_cons, x_es_nil, x_var, List.getElem?_cons_succ, List.getElem?_cons_zero, x_bind_ok, u1', x_toS_ok, x_tg, x_asg_name, List.set_cons_succ, List.set_cons_zero, x_seq_nx]
  simp only [x_ife, x_or, x_cmp, x_srt, x_var, List.getElem?_cons_succ, List.getElem?_cons_zero, x_bind_ok, a1, a2, so, ← hso, if_true, x_vw_lst, c3, x_opt, x_tst, x_not, x_isi, typW, isiB, x_toS_ok, x_ss_nil, x_seq_nx]
  simp [cmpW, shp_int, eqv_int, sh, shn, e0, a2, -decide_eq_true_eq]
  have hm : (decide (K = 0) = true ∧ so_.isEmpty = true) ∨ decide (K = 0) = false := by
    by_cases z : K = 0
    · exact .inl ⟨by simp [z], by rw [z0 z]; rfl⟩
    · exact .inr (by simp [z])
  rcases hm with ⟨q1, q2⟩ | q1
  · simp [q1, q2, bmOk, bmW, a3, ll, a4, u2', a5, a6, so, ← hso, sh, eqv_self sh]
    exact fin
  · simp [q1, bmOk, bmW, a3, ll, a4, u2', a5, a6, so, ← hso, sh, eqv_self sh]
    exact fin
end Hd
set_option Elab.async false
set_option linter.all false
set_option maxRecDepth 100000
set_option maxHeartbeats 4000000
namespace Hd
open PySem PySem.Spec L2 MP
def LwO (ns : List Int) (s : Sto) (h : Hq) : Prop := ∃ v1 v2 v3 v4 v5 v6 v7 v8 v9 v10 v11 v12, s = [some (.scr ns), v1, v2, v3, v4, v5, v6, v7, v8, v9, v10, v11, v12]
theorem cell_b {n : Nat} (hn : 12 ≤ n) {ns : List Int} {k : Nat} {K : Int} {h : Hq} {v2 v3 v4 v5 v6 v7 v8 v9 v10 v11 v12 : Option W} (hns : ns.length ≤ 63) (hk : k ≤ 1000) (hK : K = k) {T : W → Hq → Prop} :
    SatS (evSs (gam P n) b_law_3 [some (.scr ns), some (.int K), v2, v3, v4, v5, v6, v7, v8, v9, v10, v11, v12] h) (LwO ns) T := by
  obtain ⟨_, h1, e1, rfl, o, rfl, so⟩ := (ev_source (P := P) (n := n) (by omega) (h := h) (ns := ns) (k := k) hk (by omega)).ex
  rw [← hK] at e1
  have src : Src (h ++ [o]) h.length := by
    obtain ⟨a, b, rfl, q⟩ := so
    exact ⟨a, b, by simp, q⟩
  have ir := Rng.items (m := 4) (by omega)
  have ir4 : itemsW .range [.int 4] = some (Rng 0 4) := ir
  unfold b_law_3
  simp only [x_ss_cons, x_asg, x_call, x_es_cons, x_es_nil, x_var, List.getElem?_cons_succ, List.getElem?_cons_zero, x_bind_ok, e1, x_toS_ok, x_tg, x_asg_name, List.set_cons_succ, List.set_cons_zero, x_seq_nx, x_for, x_cst, ir4]
  refine SatS.seq (SatS.rng (fun t s' h' => Lw ns h.length s' h') (fun t s' h' ht z => ?_) ⟨some (.int K), v2, v3, v5, v6, v7, v8, v9, v10, v11, v12, rfl, src⟩ (fun s' h' z => ?_))
  · obtain ⟨v1, v2, v3, v5, v6, v7, v8, v9, v10, v11, v12, rfl, s⟩ := z
    exact turn_b hn s rfl
  · obtain ⟨v1, v2, v3, v5, v6, v7, v8, v9, v10, v11, v12, rfl, s⟩ := z
    simp only [x_ss_nil, s_nx]
    exact ⟨_, _, _, _, _, _, _, _, _, _, _, _, rfl⟩
/-! the written playbook -/
def oneS : List Step := [⟨.copy "a" "b", [(false, .as_ "c" "d")], []⟩, ⟨.put "e" "x", [(true, .is_ "f" "")], []⟩]
def oneV : List SV := [("web", ["b", "e"])]
theorem one_f : ssetL (filesL oneV oneS) = (["a", "b", "c", "d", "e", "f"] : List PySem.Str) := sset_of (by decide +kernel) (by decide +kernel) (by decide +kernel) (by decide +kernel)
theorem one_t : ssetL (textsL oneS) = (["", "x"] : List PySem.Str) := sset_of (by decide +kernel) (by decide +kernel) (by decide +kernel) (by decide +kernel)
theorem one_u : dueF oneV 0 oneS = ([(1, "web")] : List (Nat × PySem.Str)) := by decide +kernel
theorem one_ok : PBOk oneV oneS where
  sv3 := by decide
  serv := by decide +kernel
  sok := by
    intro p hp
    simp only [oneV, List.mem_singleton] at hp
    subst hp
    refine ⟨by decide +kernel, by decide +kernel, by decide +kernel, ?_⟩
    decide +kernel
  nd := by decide +kernel
  st24 := by decide
  step := by
    intro s hs
    simp only [oneS, List.mem_cons, List.not_mem_nil, or_false] at hs
    rcases hs with rfl | rfl
    · refine ⟨⟨?_, by decide, ?_, by decide +kernel, by decide, fun _ => rfl⟩, by decide⟩
      · intro p hp; simp [Deed.ks, Deed.its] at hp; rcases hp with rfl | rfl <;> decide +kernel
      · intro p hp; simp at hp; subst hp; intro q hq; simp [Fact.ks, Fact.its] at hq; rcases hq with rfl | rfl <;> decide +kernel
    · refine ⟨⟨?_, by decide, ?_, by decide +kernel, by decide, fun _ => rfl⟩, by decide⟩
      · intro p hp; simp [Deed.ks, Deed.its] at hp; rcases hp with rfl | rfl <;> decide +kernel
      · intro p hp; simp at hp; subst hp; intro q hq; simp [Fact.ks, Fact.its] at hq; rcases hq with rfl | rfl <;> decide +kernel
  ord := by
    intro k s hk p hp i hi
    rcases k with _ | _ | k
    · simp [oneS] at hk; subst hk; simp at hp; subst hp; simp at hi
    · simp [oneS] at hk; subst hk; simp at hp; subst hp; simp at hi
    · simp [oneS] at hk
  f6 := by rw [one_f]; decide
  t6 := by rw [one_t]; decide
  fz := by decide +kernel
  tz := by decide +kernel
theorem law_true (ns : List Int) (h : ns.length ≤ 63) : ∃ h', MP.runF (MP.gam P 39) fd_law [.scr ns] [] = .ok (.bl true) h' := by
  have S : Sat (MP.runF (MP.gam P 39) fd_law [.scr ns] []) (fun w _ => w = .bl true) := by
    refine Sat.runF (by rfl) (SatS.imp (N := fun _ _ => False) (T := fun w h' => w = .bl true) ?_ (fun _ _ z => z.elim) (fun w h' z => ⟨[], h', rfl, Pre.refl [], by rw [z]; rfl, z⟩))
    show SatS (evSs _ b_law _ _) _ _
    unfold b_law
    obtain ⟨m, hm1, hm⟩ : ∃ m : Nat, m ≤ 100 ∧ (1 : Int) + (if (15 : Int) < ns.length then 15 else (ns.length : Int)) = (m : Int) := by
      split
      · exact ⟨16, by omega, by omega⟩
      · exact ⟨1 + ns.length, by omega, by omega⟩
    have ir := Rng.items (m := m) (by omega)
    refine SatS.cons ?_
    simp only [fd_law, List.map_cons, List.map_nil, List.length_cons, List.length_nil, List.replicate, List.cons_append, List.nil_append, x_for, x_es_cons, x_es_nil, x_bin, x_cst, x_bind_ok, x_b2, x_b1, x_var, List.getElem?_cons_zero, x_vw_scr, b1W, seqOf, Option.map_some, List.length_map, x_opt, b2W, x_vw_int, addW, x_toS_ok]
    rw [hm, ir]
    simp only
    refine SatS.rng (fun t s' h' => LwO ns s' h') (fun t s' h' ht z => ?_) ⟨_, _, _, _, _, _, _, _, _, _, _, _, rfl⟩ (fun s' h' z => ?_)
    · obtain ⟨v1, v2, v3, v4, v5, v6, v7, v8, v9, v10, v11, v12, rfl⟩ := z
      exact cell_b (by omega) h (by omega) rfl
    · obtain ⟨v1, v2, v3, v4, v5, v6, v7, v8, v9, v10, v11, v12, rfl⟩ := z
      have f1 := ev_files_of (P := P) (n := 39) (by omega) (h := h') one_ok
      have f2 := ev_texts_of (P := P) (n := 39) (by omega) (h := h') one_ok
      have f3 := ev_unnotified (P := P) (n := 39) (by omega) (h := h') one_ok
      rw [one_f] at f1
      rw [one_t] at f2
      rw [one_u] at f3
      have c1 : cmpW .ne (.lst ((["a", "b", "c", "d", "e", "f"] : List PySem.Str).map W.str)) (.lst [.str "a", .str "b", .str "c", .str "d", .str "e", .str "f"]) = some false := by decide +kernel
      have c2 : cmpW .ne (.lst ((["", "x"] : List PySem.Str).map W.str)) (.lst [.str "", .str "x"]) = some false := by decide +kernel
      have so : sortW (([(1, "web")] : List (Nat × PySem.Str)).map dW) = [dW (1, "web")] := by
        simp [sortW, strsOf, dW]
      have p1 : pbW oneV oneS = .tup [.tup [.tup [.str "web", .tup [.str "b", .str "e"]]], .tup [.tup [.tup [.str "copy", .str "a", .str "b"], .tup [.tup [.bl false, .tup [.str "as", .str "c", .str "d"]]], .tup []], .tup [.tup [.str "put", .str "e", .str "x"], .tup [.tup [.bl true, .tup [.str "is", .str "f", .str ""]]], .tup []]]] := rfl
      have c3 : cmpW .eq (.lst [dW (1, "web")]) (.lst [.tup [.int 1, .str "web"]]) = some true := by decide +kernel
      rw [so] at f3
      rw [p1] at f1 f2 f3
      obtain ⟨H3, hH3⟩ : ∃ H, H = h' ++ [O.lst (([(1, "web")] : List (Nat × PySem.Str)).map dW), .lst [dW (1, "web")]] := ⟨_, rfl⟩
      have a2 : vw H3 (.ref (h'.length + 1)) = .lst [dW (1, "web")] := by simp [vw, hH3]
      rw [← hH3] at f3
      simp only [List.map_cons, List.map_nil] at c1 c2 f1 f2
      simp [f1, f2, f3, c1, c2, a2, c3]
  obtain ⟨w, h', e, rfl⟩ := S.ex
  exact ⟨h', e⟩
end Hd
set_option Elab.async false
set_option linter.all false
set_option maxRecDepth 100000
set_option maxHeartbeats 0

namespace Hd
open PySem PySem.Spec PyProof.Rows L2 MP
def top (i : Nat) : Stmt := PySem.Challenge.pw_makeso_k02_files_texts_and_missing_notic.main.body.getD i (.Pass ⟨0, 0, 0, 0⟩)
def mkD (s : PySem.Str) (i : Nat) : He.DefD := ⟨(s, none), s, s, defArgs (top i), defBody (top i), defScope (top i), [], []⟩
def r_is_number : MP.Row := ⟨mkD "is_number" 7, fd_is_number, nm_is_number⟩
def r_is_text : MP.Row := ⟨mkD "is_text" 8, fd_is_text, nm_is_text⟩
def r_is_name : MP.Row := ⟨mkD "is_name" 9, fd_is_name, nm_is_name⟩
def r_is_pair : MP.Row := ⟨mkD "is_pair" 10, fd_is_pair, nm_is_pair⟩
def r_ascending : MP.Row := ⟨mkD "ascending" 11, fd_ascending, nm_ascending⟩
def r_is_names : MP.Row := ⟨mkD "is_names" 12, fd_is_names, nm_is_names⟩
def r_is_service : MP.Row := ⟨mkD "is_service" 13, fd_is_service, nm_is_service⟩
def r_kinds : MP.Row := ⟨mkD "kinds" 14, fd_kinds, nm_kinds⟩
def r_is_worded : MP.Row := ⟨mkD "is_worded" 15, fd_is_worded, nm_is_worded⟩
def r_is_deed : MP.Row := ⟨mkD "is_deed" 16, fd_is_deed, nm_is_deed⟩
def r_is_condition : MP.Row := ⟨mkD "is_condition" 17, fd_is_condition, nm_is_condition⟩
def r_is_step : MP.Row := ⟨mkD "is_step" 18, fd_is_step, nm_is_step⟩
def r_keeps_order : MP.Row := ⟨mkD "keeps_order" 19, fd_keeps_order, nm_keeps_order⟩
def r_files_in : MP.Row := ⟨mkD "files_in" 20, fd_files_in, nm_files_in⟩
def r_texts_in : MP.Row := ⟨mkD "texts_in" 21, fd_texts_in, nm_texts_in⟩
def r_is_playbook : MP.Row := ⟨mkD "is_playbook" 22, fd_is_playbook, nm_is_playbook⟩
def r_need_playbook : MP.Row := ⟨mkD "need_playbook" 23, fd_need_playbook, nm_need_playbook⟩
def r_files_of : MP.Row := ⟨mkD "files_of" 24, fd_files_of, nm_files_of⟩
def r_texts_of : MP.Row := ⟨mkD "texts_of" 25, fd_texts_of, nm_texts_of⟩
def r_unnotified : MP.Row := ⟨mkD "unnotified" 26, fd_unnotified, nm_unnotified⟩
def r__law_source : MP.Row := ⟨mkD "_law_source" 28, fd__law_source, nm__law_source⟩
def r__law_draw : MP.Row := ⟨mkD "_law_draw" 29, fd__law_draw, nm__law_draw⟩
def r__law_of : MP.Row := ⟨mkD "_law_of" 30, fd__law_of, nm__law_of⟩
def r__law_names : MP.Row := ⟨mkD "_law_names" 31, fd__law_names, nm__law_names⟩
def r__law_texts : MP.Row := ⟨mkD "_law_texts" 32, fd__law_texts, nm__law_texts⟩
def r__law_world : MP.Row := ⟨mkD "_law_world" 33, fd__law_world, nm__law_world⟩
def r__law_deed : MP.Row := ⟨mkD "_law_deed" 34, fd__law_deed, nm__law_deed⟩
def r__law_fact : MP.Row := ⟨mkD "_law_fact" 35, fd__law_fact, nm__law_fact⟩
def r__law_step : MP.Row := ⟨mkD "_law_step" 36, fd__law_step, nm__law_step⟩
def r__law_playbook : MP.Row := ⟨mkD "_law_playbook" 37, fd__law_playbook, nm__law_playbook⟩
def r__law_files : MP.Row := ⟨mkD "_law_files" 38, fd__law_files, nm__law_files⟩
def r__law_known : MP.Row := ⟨mkD "_law_known" 39, fd__law_known, nm__law_known⟩
def r_law : MP.Row := ⟨mkD "law" 40, fd_law, nm_law⟩
def rows : List MP.Row := ([r_is_number, r_is_text, r_is_name, r_is_pair, r_ascending, r_is_names, r_is_service, r_kinds, r_is_worded, r_is_deed] : List MP.Row) ++ ([r_is_condition, r_is_step, r_keeps_order, r_files_in, r_texts_in, r_is_playbook, r_need_playbook, r_files_of, r_texts_of, r_unnotified] : List MP.Row) ++ ([r__law_source, r__law_draw, r__law_of, r__law_names, r__law_texts, r__law_world, r__law_deed, r__law_fact, r__law_step, r__law_playbook] : List MP.Row) ++ ([r__law_files, r__law_known, r_law] : List MP.Row)
def cons : List (PySem.Str × MP.Kc) := ([("LETTERS", .str "abcdefghijklmnopqrstuvwxyz"), ("MOST_FILES", .int 6), ("MOST_STEPS", .int 24)] : List (PySem.Str × MP.Kc))
def exs : List PySem.Str := ["InvalidPlaybook"]
def fn : List He.DefD := ([r_is_number.d, r_is_text.d, r_is_name.d, r_is_pair.d, r_ascending.d, r_is_names.d, r_is_service.d, r_kinds.d, r_is_worded.d, r_is_deed.d] : List He.DefD) ++ ([r_is_condition.d, r_is_step.d, r_keeps_order.d, r_files_in.d, r_texts_in.d, r_is_playbook.d, r_need_playbook.d, r_files_of.d, r_texts_of.d, r_unnotified.d] : List He.DefD) ++ ([r__law_source.d, r__law_draw.d, r__law_of.d, r__law_names.d, r__law_texts.d, r__law_world.d, r__law_deed.d, r__law_fact.d, r__law_step.d, r__law_playbook.d] : List He.DefD) ++ ([r__law_files.d, r__law_known.d, r_law.d] : List He.DefD)
def fa : List He.Fa := ([.glo "is_number", .glo "is_text", .glo "is_name", .glo "is_pair", .glo "ascending", .glo "is_names", .glo "is_service", .glo "kinds", .glo "is_worded", .glo "is_deed"] : List He.Fa) ++ ([.glo "is_condition", .glo "is_step", .glo "keeps_order", .glo "files_in", .glo "texts_in", .glo "is_playbook", .glo "need_playbook", .glo "files_of", .glo "texts_of", .glo "unnotified"] : List He.Fa) ++ ([.glo "_law_source", .glo "_law_draw", .glo "_law_of", .glo "_law_names", .glo "_law_texts", .glo "_law_world", .glo "_law_deed", .glo "_law_fact", .glo "_law_step", .glo "_law_playbook"] : List He.Fa) ++ ([.glo "_law_files", .glo "_law_known", .glo "law", .free "len", .free "tuple", .free "list", .free "int", .free "str", .free "abs", .free "all"] : List He.Fa) ++ ([.free "any", .free "sorted", .free "max", .free "min", .free "isinstance", .free "set", .free "zip", .free "range", .free "enumerate", .free "bool"] : List He.Fa) ++ ([.free "dict", .str "LETTERS" "abcdefghijklmnopqrstuvwxyz", .int "MOST_FILES" 6, .int "MOST_STEPS" 24, .exc "InvalidPlaybook", .glo "InvalidPlaybook"] : List He.Fa)
def loose : List PySem.Str := (["MakeError", "InvalidPlaybook", "LETTERS", "MOST_FILES", "MOST_STEPS", "is_number", "is_text", "is_name", "is_pair", "ascending"] : List PySem.Str) ++ (["is_names", "is_service", "kinds", "is_worded", "is_deed", "is_condition", "is_step", "keeps_order", "files_in", "texts_in"] : List PySem.Str) ++ (["is_playbook", "need_playbook", "files_of", "texts_of", "unnotified", "_law_source", "_law_draw", "_law_of", "_law_names", "_law_texts"] : List PySem.Str) ++ (["_law_world", "_law_deed", "_law_fact", "_law_step", "_law_playbook", "_law_files", "_law_known"] : List PySem.Str)
theorem hd_chk : rows.all (MP.rowB (rows.map fun r => r.d.at_.1) exs) = true := by decide +kernel
theorem P_eq : MP.progOf rows cons 1000 = P := by rfl
abbrev R : PySem.W.OpenRow := PySem.W.OpenLaw.row PySem.Challenge.rw_makeso_k02_files_texts_and_missing_notic
abbrev hk : PySem.W.Hook := He.hookD 4 fa fn
def ob (s : PySem.W.SharedT) : He.AlD := He.obsDG 4 fa fn (HandSHeadRun.getT s)
theorem ob_eq (s : PySem.W.SharedT) : ob s = hk.obs s.abs := He.obsDG_eq (HandSHeadRun.getT_eq s)
theorem run (w : PySem.World) : HandSHeadRun.RunEq R (PySem.W.view R.prog [40]) hk ob 3000 loose w := by
  intro os
  kernel_rfl
/-- where an entry stands -/
def findFa (f : He.Fa → Bool) (p : Nat) : List He.Fa → Option Nat
  | [] => none
  | a :: r => if f a then some p else findFa f (p + 1) r
theorem idx_of {α : Type} {l : List α} {a : α} (h : a ∈ l) : ∃ j : Nat, l[j]? = some a := by
  obtain ⟨n, h1, h2⟩ := List.getElem_of_mem h
  exact ⟨n, by rw [List.getElem?_eq_getElem h1, h2]⟩
theorem head_ok : MP.HeadOk rows cons exs fa fn where
  fns := fun r hr => by
    have h1 : r.d ∈ fn := by
      have e : fn = rows.map (·.d) := rfl
      rw [e]; exact List.mem_map.mpr ⟨r, hr, rfl⟩
    have h2 : ∀ r ∈ rows, He.Fa.glo r.d.at_.1 ∈ fa := by
      intro r hr
      have e : rows.map (fun r => He.Fa.glo r.d.at_.1) <+: fa := ⟨fa.drop rows.length, rfl⟩
      exact e.subset (List.mem_map.mpr ⟨r, hr, rfl⟩)
    obtain ⟨i, hi⟩ := idx_of h1
    obtain ⟨j, hj⟩ := idx_of (h2 r hr)
    exact ⟨i, j, hi, hj⟩
  chk := hd_chk
  con := fun p hp => by
    have e : (cons.map fun p => p.2.fa p.1) <+: fa.drop (rows.length + 18) := ⟨(fa.drop (rows.length + 18)).drop cons.length, rfl⟩
    obtain ⟨j, hj⟩ := idx_of (List.mem_of_mem_drop (e.subset (List.mem_map.mpr ⟨p, hp, rfl⟩)))
    exact ⟨j, hj⟩
  blt := fun x hx => by
    have e : (bltN.map fun x => He.Fa.free x) <+: fa.drop rows.length := ⟨(fa.drop rows.length).drop 18, rfl⟩
    obtain ⟨j, hj⟩ := idx_of (List.mem_of_mem_drop (e.subset (List.mem_map.mpr ⟨x, hx, rfl⟩)))
    exact ⟨j, hj⟩
  exc := fun x hx => by
    have e : (exs.map fun x => He.Fa.exc x) <+: fa.drop (rows.length + 18 + cons.length) := ⟨(fa.drop (rows.length + 18 + cons.length)).drop exs.length, rfl⟩
    have e2 : (exs.map fun x => He.Fa.glo x) <+: fa.drop (rows.length + 18 + cons.length + exs.length) := ⟨(fa.drop (rows.length + 18 + cons.length + exs.length)).drop exs.length, rfl⟩
    obtain ⟨i, hi⟩ := idx_of (List.mem_of_mem_drop (e.subset (List.mem_map.mpr ⟨x, hx, rfl⟩)))
    obtain ⟨j, hj⟩ := idx_of (List.mem_of_mem_drop (e2.subset (List.mem_map.mpr ⟨x, hx, rfl⟩)))
    exact ⟨i, j, hi, hj⟩
end Hd
open PySem PySem.W PySem.Calls PyProof.Rows
theorem PySem.Challenge.cw_makeso_k02_files_texts_and_missing_notic_holds : PySem.Challenge.rw_makeso_k02_files_texts_and_missing_notic.Holds := by
  w_on; o_law
  refine HandSHeadRun.head_any (r := OpenLaw.row PySem.Challenge.rw_makeso_k02_files_texts_and_missing_notic) (q := view (OpenLaw.row PySem.Challenge.rw_makeso_k02_files_texts_and_missing_notic).prog [40]) (H := Hd.hk) (ob := Hd.ob) (M := 3000) (loose := Hd.loose) (d := HandSHeadRun.topDef (OpenLaw.row PySem.Challenge.rw_makeso_k02_files_texts_and_missing_notic).prog 40) (kwd := []) Hd.ob_eq
    (by kernel_rfl) (fun s => by kernel_rfl) Hd.run (by kernel_rfl) (by kernel_rfl) (by kernel_rfl) (by rfl) (by first | assumption | decide +kernel) (by decide +kernel) ⟨rfl, rfl, rfl, rfl, rfl, by decide +kernel⟩ ?hw ?hc
  case hw => w_witness2
  case hc =>
    refine L2.walk_ofE (l := PySem.Challenge.rw_makeso_k02_files_texts_and_missing_notic) (n := 63) (k := 40) (x := "script") (CX := L2.CX0) rfl (by decide) (by kernel_rfl) ⟨rfl, by decide, by decide⟩ ?F (fun _ _ _ _ z => z)
    intro w mg fa h Y G hmg0
    exact MP.law_end (r := Hd.r_law) (n := 39) (most := 63) (law := "law") (x := "script") Hd.head_ok Y G (List.mem_of_getElem? (i := 32) rfl) rfl rfl hmg0 fun ns hn => Hd.law_true ns hn
