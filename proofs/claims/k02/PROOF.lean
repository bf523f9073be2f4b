import PyProof.Rows.All
import Wide.All
import OpenK.AllK
import Wide.FinOn
import HandS.ForMost
import HandS.ForExc
import HandS.TupAny
import HandS.IsInst
import HandS.Wide
import HandS.Codes
import HandS.Replace
import HandS.Conv
import HandS.Defaults
import KE.KStateDown
import HandS.More
import HandS.Head0
import HandS.Head1
import HandS.Head2
import HandS.HeadEnd
import HandS.HeadHook1
import HandS.HeadHook2
import HandS.HeadHook3
import HandS.HeadHook4
import HandS.Style
import HandS.Strs
import KE.GoesEnum
import HandS.Zip
import PySem.Challenge.RW_inorder_k02_what_is_a_kind
set_option Elab.async false
set_option linter.all false
set_option maxRecDepth 100000
set_option maxHeartbeats 0
/-! Fw1: values as data, a store of the things that change, and what an expression or a statement is worth over them. -/
namespace Ev
open PySem PySem.Spec PyProof.Rows L2

/-- a value: tuples are data; ref i: the i-th thing of the store; frl: a list that nobody changes -/
inductive PV where
  | non | bl (b : Bool) | int (i : Int) | str (x : Str) | tup (xs : List PV) | ref (i : Nat) | frl (xs : List PV)
/-- a thing that changes -/
inductive PObj where
  | lst (xs : List PV) | dic (kvs : List (Key × PV)) | ins (C : Str) (fs : List (Str × PV))
abbrev Store := List PObj
abbrev Env' := List (Option PV)
/-- what is raised: the class's name, its one field -/
structure PX where
  nm : Str
  fd : List (Str × PV)
inductive Res (α : Type) where
  | ok (a : α) (S : Store) | exc (e : PX) (S : Store) | bad
inductive SR where
  | nx (ρ : Env') (S : Store) | ret (v : PV) (S : Store) | brk (ρ : Env') (S : Store) | cnt (ρ : Env') (S : Store) | exc (e : PX) (ρ : Env') (S : Store) | bad
abbrev TV := Env' → Store → Res PV
abbrev TB := Env' → Store → Res Bool
/-- a list: its items, its number in the store (none: a new one) -/
abbrev LL := List PV × Option Nat
abbrev TL := Env' → Store → Res LL
/-- what a walk hangs on: lists of the store, as they stand -/
inductive Lk where
  | one (j : Nat) (xs : List PV) | two (j : Nat) (xs : List PV) (k : Nat) (ys : List PV)
/-- what is walked: its items, what it hangs on (none: nothing that changes) -/
abbrev LI := List PV × Option Lk
abbrev TIt := Env' → Store → Res LI
abbrev TVs := Env' → Store → Res (List PV)
abbrev TSt := Env' → Store → SR

def Res.bind {α β : Type} (r : Res α) (f : α → Store → Res β) : Res β := match r with
  | .ok a S => f a S
  | .exc e S => .exc e S
  | .bad => .bad
@[simp] theorem bind_ok {α β : Type} (a : α) (S : Store) (f : α → Store → Res β) : (Res.ok a S).bind f = f a S := rfl
@[simp] theorem bind_exc {α β : Type} (e : PX) (S : Store) (f : α → Store → Res β) : (Res.exc e S).bind f = .exc e S := rfl
@[simp] theorem bind_bad {α β : Type} (f : α → Store → Res β) : (Res.bad : Res α).bind f = .bad := rfl

/-! ### how data stand in the heap -/
/-- a text as it may stand: not too long, of code points -/
def SOk (x : Str) : Prop := x.length ≤ sizeLine ∧ PyData.strOk x = true
instance (x : Str) : Decidable (SOk x) := inferInstanceAs (Decidable (_ ∧ _))
/-- a list that nobody changes -/
def FL (K : PySem.W.Frag) (H : Hp) (a : Addr) (vs : List V) : Prop := (∃ o, H a = some (.frz o (.lst vs))) ∨
  ∃ (o : Obj) (its : Array Value) (n : Nat), K.lookup a = some o ∧ o.cls = .type "list" ∧ o.dict = none ∧ o.data = .seq its n ∧ its.size ≤ sizeLine ∧ Vals vs its.toList
theorem FL.sq {K : PySem.W.Frag} {H : Hp} {a : Addr} {vs : List V} (h : FL K H a vs) : SqL K H a vs := by
  rcases h with ⟨o, h⟩ | h
  · exact .inl (.inr ⟨o, h⟩)
  · exact .inr h
mutual
inductive RV (K : PySem.W.Frag) (μ : List Addr) (H : Hp) : PV → V → Prop
  | non : RV K μ H .non .non
  | bl (b : Bool) : RV K μ H (.bl b) (.bl b)
  | int (i : Int) : RV K μ H (.int i) (.int i)
  | str (x : Str) (h : SOk x) : RV K μ H (.str x) (.str x)
  | tup {a : Addr} {xs : List PV} {vs : List V} (s : SqT K H a vs) (l : xs.length ≤ sizeLine) (r : RVs K μ H xs vs) : RV K μ H (.tup xs) (.ref a)
  | ref {i : Nat} {a : Addr} (h : μ[i]? = some a) : RV K μ H (.ref i) (.ref a)
  | frl {a : Addr} {xs : List PV} {vs : List V} (s : FL K H a vs) (l : xs.length ≤ sizeLine) (r : RVs K μ H xs vs) : RV K μ H (.frl xs) (.ref a)
inductive RVs (K : PySem.W.Frag) (μ : List Addr) (H : Hp) : List PV → List V → Prop
  | nil : RVs K μ H [] []
  | cons {x : PV} {v : V} {xs : List PV} {vs : List V} (h : RV K μ H x v) (t : RVs K μ H xs vs) : RVs K μ H (x :: xs) (v :: vs)
end
def RKs (K : PySem.W.Frag) (μ : List Addr) (H : Hp) {κ : Type} : List (κ × PV) → List (κ × V) → Prop := Paired fun p q => p.1 = q.1 ∧ RV K μ H p.2 q.2
def RO (K : PySem.W.Frag) (cm : Str → Value → Prop) (μ : List Addr) (H : Hp) (a : Addr) : PObj → Prop
  | .lst xs => ∃ vs, H a = some (.lst vs) ∧ xs.length ≤ sizeLine ∧ RVs K μ H xs vs
  | .dic kvs => ∃ kv, H a = some (.dK kv) ∧ kvs.length ≤ sizeLine ∧ RKs K μ H kvs kv
  | .ins C fs => ∃ Ca dx fv, cm C (.ref Ca) ∧ H a = some (.ins Ca dx fv) ∧ fs.length ≤ 900 ∧ RKs K μ H fs fv
structure Ext (μ : List Addr) (H : Hp) (μ' : List Addr) (H' : Hp) : Prop where
  pre : ∀ (i : Nat) (a : Addr), μ[i]? = some a → μ'[i]? = some a
  new : ∀ b ∈ μ', b ∈ μ ∨ H b = none
  kp : ∀ b o, H b = some o → b ∉ μ → H' b = some o
/-- what data ask of a step -/
structure Up (μ : List Addr) (H : Hp) (μ' : List Addr) (H' : Hp) : Prop where
  pre : ∀ (i : Nat) (a : Addr), μ[i]? = some a → μ'[i]? = some a
  kp : ∀ b o, H b = some o → b ∉ μ → H' b = some o
theorem Ext.up {μ μ' : List Addr} {H H' : Hp} (e : Ext μ H μ' H') : Up μ H μ' H' := ⟨e.pre, e.kp⟩
structure RS (K : PySem.W.Frag) (cm : Str → Value → Prop) (μ : List Addr) (S : Store) (H : Hp) : Prop where
  len : μ.length = S.length
  nd : μ.Nodup
  ob : ∀ (i : Nat) (a : Addr) (o : PObj), μ[i]? = some a → S[i]? = some o → RO K cm μ H a o
def RE (K : PySem.W.Frag) (μ : List Addr) (H : Hp) (ρ : Env') (σ : L2.St) : Prop :=
  ρ.length = σ.length ∧ ∀ (i : Nat) (x : PV), ρ[i]? = some (some x) → ∃ v, σ[i]? = some (some v) ∧ RV K μ H x v
section
variable {K : PySem.W.Frag} {cm : Str → Value → Prop} {μ μ' μ1 μ2 : List Addr} {H H' H1 H2 : Hp} {S S' : Store} {ρ : Env'} {σ : L2.St}
theorem Ext.refl : Ext μ H μ H := ⟨fun _ _ h => h, fun _ h => .inl h, fun _ _ h _ => h⟩
theorem Ext.trans (a : Ext μ H μ1 H1) (b : Ext μ1 H1 μ2 H2) : Ext μ H μ2 H2 where
  pre := fun i x h => b.pre i x (a.pre i x h)
  new := fun x h => by
    rcases b.new x h with h1 | h1
    · exact a.new x h1
    · by_cases hm : x ∈ μ
      · exact .inl hm
      · refine .inr ?_
        cases e : H x with
        | none => rfl
        | some o => rw [a.kp x o e hm] at h1; cases h1
  kp := fun x o h hm => b.kp x o (a.kp x o h hm) fun h1 => by
    rcases a.new x h1 with h2 | h2
    · exact hm h2
    · rw [h] at h2; cases h2
/-- what a thing of the store is at its address -/
theorem RS.mem (R : RS K cm μ S H) {a : Addr} (h : a ∈ μ) : ∃ (i : Nat) (o : PObj), μ[i]? = some a ∧ S[i]? = some o ∧ RO K cm μ H a o := by
  obtain ⟨i, hi⟩ := List.mem_iff_getElem?.mp h
  have hl : i < S.length := by
    rw [← R.len]; exact (List.getElem?_eq_some_iff.mp hi).1
  exact ⟨i, S[i], hi, List.getElem?_eq_getElem hl, R.ob i a _ hi (List.getElem?_eq_getElem hl)⟩
theorem RS.notTup (R : RS K cm μ S H) {a : Addr} {vs : List V} (h : Rd H a (.tup vs)) : a ∉ μ := fun hm => by
  obtain ⟨i, o, _, _, r⟩ := R.mem hm
  cases o with
  | lst xs => obtain ⟨ws, e, _⟩ := r; rcases h with h | ⟨_, h⟩ <;> (rw [e] at h; cases h)
  | dic xs => obtain ⟨ws, e, _⟩ := r; rcases h with h | ⟨_, h⟩ <;> (rw [e] at h; cases h)
  | ins C fs => obtain ⟨Ca, dx, ws, _, e, _⟩ := r; rcases h with h | ⟨_, h⟩ <;> (rw [e] at h; cases h)
theorem RS.notFrz (R : RS K cm μ S H) {a : Addr} {ob : Obj} {u : HO} (h : H a = some (.frz ob u)) : a ∉ μ := fun hm => by
  obtain ⟨i, o, _, _, r⟩ := R.mem hm
  cases o with
  | lst xs => obtain ⟨ws, e, _⟩ := r; rw [e] at h; cases h
  | dic xs => obtain ⟨ws, e, _⟩ := r; rw [e] at h; cases h
  | ins C fs => obtain ⟨Ca, dx, ws, _, e, _⟩ := r; rw [e] at h; cases h
theorem RS.trk (R : RS K cm μ S H) {a : Addr} (h : a ∈ μ) : H a ≠ none := fun hn => by
  obtain ⟨i, o, _, _, r⟩ := R.mem h
  cases o with
  | lst xs => obtain ⟨ws, e, _⟩ := r; rw [e] at hn; cases hn
  | dic xs => obtain ⟨ws, e, _⟩ := r; rw [e] at hn; cases hn
  | ins C fs => obtain ⟨Ca, dx, ws, _, e, _⟩ := r; rw [e] at hn; cases hn
theorem RS.tupS (R : RS K cm μ S H) (E : Up μ H μ' H') {a : Addr} {vs : List V} (h : SqT K H a vs) : SqT K H' a vs := by
  rcases h with h | h
  · have hm := R.notTup h
    rcases h with h | ⟨o, h⟩
    · exact .inl (.inl (E.kp _ _ h hm))
    · exact .inl (.inr ⟨o, E.kp _ _ h hm⟩)
  · exact .inr h
theorem RS.flS (R : RS K cm μ S H) (E : Up μ H μ' H') {a : Addr} {vs : List V} (h : FL K H a vs) : FL K H' a vs := by
  rcases h with ⟨o, h⟩ | h
  · exact .inl ⟨o, E.kp _ _ h (R.notFrz h)⟩
  · exact .inr h
mutual
theorem RV.mono' (R : RS K cm μ S H) (E : Up μ H μ' H') : ∀ {x : PV} {v : V}, RV K μ H x v → RV K μ' H' x v
  | _, _, .non => .non
  | _, _, .bl b => .bl b
  | _, _, .int i => .int i
  | _, _, .str x h => .str x h
  | _, _, .tup s l r => .tup (R.tupS E s) l (RVs.mono' R E r)
  | _, _, .ref h => .ref (E.pre _ _ h)
  | _, _, .frl s l r => .frl (R.flS E s) l (RVs.mono' R E r)
theorem RVs.mono' (R : RS K cm μ S H) (E : Up μ H μ' H') : ∀ {xs : List PV} {vs : List V}, RVs K μ H xs vs → RVs K μ' H' xs vs
  | _, _, .nil => .nil
  | _, _, .cons h t => .cons (RV.mono' R E h) (RVs.mono' R E t)
end
theorem RV.mono (R : RS K cm μ S H) (E : Ext μ H μ' H') {x : PV} {v : V} (h : RV K μ H x v) : RV K μ' H' x v := h.mono' R E.up
theorem RVs.mono (R : RS K cm μ S H) (E : Ext μ H μ' H') {xs : List PV} {vs : List V} (h : RVs K μ H xs vs) : RVs K μ' H' xs vs := h.mono' R E.up
theorem RKs.mono' {κ : Type} (R : RS K cm μ S H) (E : Up μ H μ' H') {xs : List (κ × PV)} {vs : List (κ × V)} (h : RKs K μ H xs vs) : RKs K μ' H' xs vs :=
  Paired.mapP h fun _ _ r => ⟨r.1, r.2.mono' R E⟩
theorem RKs.mono {κ : Type} (R : RS K cm μ S H) (E : Ext μ H μ' H') {xs : List (κ × PV)} {vs : List (κ × V)} (h : RKs K μ H xs vs) : RKs K μ' H' xs vs := h.mono' R E.up
theorem RE.mono' (R : RS K cm μ S H) (E : Up μ H μ' H') (h : RE K μ H ρ σ) : RE K μ' H' ρ σ :=
  ⟨h.1, fun i x e => let ⟨v, e', r⟩ := h.2 i x e; ⟨v, e', r.mono' R E⟩⟩
theorem RE.mono (R : RS K cm μ S H) (E : Ext μ H μ' H') (h : RE K μ H ρ σ) : RE K μ' H' ρ σ := h.mono' R E.up
/-- what data ask of a step at the least: tuples and locked lists stay -/
structure Up2 (μ : List Addr) (H : Hp) (μ' : List Addr) (H' : Hp) : Prop where
  pre : ∀ (i : Nat) (a : Addr), μ[i]? = some a → μ'[i]? = some a
  kt : ∀ b vs, Rd H b (.tup vs) → Rd H' b (.tup vs)
  kf : ∀ b o vs, H b = some (.frz o (.lst vs)) → H' b = some (.frz o (.lst vs))
mutual
theorem RV.mono2 (E : Up2 μ H μ' H') : ∀ {x : PV} {v : V}, RV K μ H x v → RV K μ' H' x v
  | _, _, .non => .non
  | _, _, .bl b => .bl b
  | _, _, .int i => .int i
  | _, _, .str x h => .str x h
  | _, _, .tup s l r => .tup (s.elim (fun s => .inl (E.kt _ _ s)) .inr) l (RVs.mono2 E r)
  | _, _, .ref h => .ref (E.pre _ _ h)
  | _, _, .frl s l r => .frl (s.elim (fun ⟨o, s⟩ => .inl ⟨o, E.kf _ _ _ s⟩) .inr) l (RVs.mono2 E r)
theorem RVs.mono2 (E : Up2 μ H μ' H') : ∀ {xs : List PV} {vs : List V}, RVs K μ H xs vs → RVs K μ' H' xs vs
  | _, _, .nil => .nil
  | _, _, .cons h t => .cons (RV.mono2 E h) (RVs.mono2 E t)
end
theorem RKs.mono2 {κ : Type} (E : Up2 μ H μ' H') {xs : List (κ × PV)} {vs : List (κ × V)} (h : RKs K μ H xs vs) : RKs K μ' H' xs vs :=
  Paired.mapP h fun _ _ r => ⟨r.1, r.2.mono2 E⟩
theorem RE.mono2 (E : Up2 μ H μ' H') (h : RE K μ H ρ σ) : RE K μ' H' ρ σ := ⟨h.1, fun i x e => let ⟨v, e', r⟩ := h.2 i x e; ⟨v, e', r.mono2 E⟩⟩
theorem RO.mono2 (E : Up2 μ H μ' H') {a : Addr} {o : PObj} (h : RO K cm μ H a o) (e : H' a = H a) : RO K cm μ' H' a o := by
  cases o with
  | lst xs => obtain ⟨ws, e1, l, r⟩ := h; exact ⟨ws, e.trans e1, l, r.mono2 E⟩
  | dic xs => obtain ⟨ws, e1, l, r⟩ := h; exact ⟨ws, e.trans e1, l, r.mono2 E⟩
  | ins C fs => obtain ⟨Ca, dx, ws, c, e1, l, r⟩ := h; exact ⟨Ca, dx, ws, c, e.trans e1, l, r.mono2 E⟩
/-- a list that is no thing of the store is rewritten -/
theorem Up2.off {D : Addr} {ws : List V} {o : HO} (h : H D = some (.lst ws)) : Up2 μ H μ (upd H D o) :=
  ⟨fun _ _ h => h, fun b vs hb => by
    rcases hb with hb | ⟨u, hb⟩
    · exact .inl (by rw [upd_ne]; exact hb; rintro rfl; rw [h] at hb; cases hb)
    · exact .inr ⟨u, by rw [upd_ne]; exact hb; rintro rfl; rw [h] at hb; cases hb⟩, fun b u vs hb => by rw [upd_ne]; exact hb; rintro rfl; rw [h] at hb; cases hb⟩
theorem RS.off {D : Addr} {ws : List V} {o : HO} (R : RS K cm μ S H) (hm : D ∉ μ) (h : H D = some (.lst ws)) : RS K cm μ S (upd H D o) :=
  ⟨R.len, R.nd, fun i a ob hi e => (R.ob i a ob hi e).mono2 (Up2.off h) (by rw [upd_ne]; rintro rfl; exact hm (List.mem_of_getElem? hi))⟩
theorem Ext.off {D : Addr} {o : HO} {μ1 : List Addr} {H1 : Hp} (E : Ext μ1 H1 μ H) (h : H1 D = none) : Ext μ1 H1 μ (upd H D o) :=
  ⟨E.pre, E.new, fun b u e hb => by rw [upd_ne (ne_of_none e h)]; exact E.kp b u e hb⟩
theorem RVs.length : ∀ {xs : List PV} {vs : List V}, RVs K μ H xs vs → xs.length = vs.length
  | _, _, .nil => rfl
  | _, _, .cons _ t => by simp [t.length]
theorem RVs.append : ∀ {xs ys : List PV} {vs ws : List V}, RVs K μ H xs vs → RVs K μ H ys ws → RVs K μ H (xs ++ ys) (vs ++ ws)
  | _, _, _, _, .nil, s => s
  | _, _, _, _, .cons r t, s => .cons r (t.append s)
theorem RVs.take : ∀ {xs : List PV} {vs : List V} (n : Nat), RVs K μ H xs vs → RVs K μ H (xs.take n) (vs.take n)
  | _, _, 0, _ => .nil
  | _, _, _ + 1, .nil => .nil
  | _, _, n + 1, .cons r t => .cons r (t.take n)
theorem RVs.drop : ∀ {xs : List PV} {vs : List V} (n : Nat), RVs K μ H xs vs → RVs K μ H (xs.drop n) (vs.drop n)
  | _, _, 0, r => r
  | _, _, _ + 1, .nil => .nil
  | _, _, n + 1, .cons _ t => t.drop n
theorem RVs.get : ∀ {xs : List PV} {vs : List V} {i : Nat} {x : PV}, RVs K μ H xs vs → xs[i]? = some x → ∃ v, vs[i]? = some v ∧ RV K μ H x v
  | _, _, _, _, .nil, e => by simp at e
  | _, _, 0, _, .cons r _, e => by simp at e; subst e; exact ⟨_, rfl, r⟩
  | _, _, i + 1, x, .cons _ t, e => by
    obtain ⟨u, h1, h2⟩ := RVs.get (i := i) (x := x) t (by simpa using e)
    exact ⟨u, by simpa using h1, h2⟩
theorem RVs.set {x : PV} {v : V} (r : RV K μ H x v) : ∀ {xs : List PV} {vs : List V} (i : Nat), RVs K μ H xs vs → RVs K μ H (xs.set i x) (vs.set i v)
  | _, _, _, .nil => .nil
  | _, _, 0, .cons _ t => .cons r t
  | _, _, i + 1, .cons q t => .cons q (RVs.set r i t)
theorem RVs.dropLast : ∀ {xs : List PV} {vs : List V}, RVs K μ H xs vs → RVs K μ H xs.dropLast vs.dropLast
  | _, _, .nil => .nil
  | _, _, .cons _ .nil => .nil
  | _, _, .cons r (.cons q t) => .cons r (RVs.dropLast (.cons q t))
theorem RVs.reverse {xs : List PV} {vs : List V} (h : RVs K μ H xs vs) : RVs K μ H xs.reverse vs.reverse := by
  induction h using RVs.rec (motive_1 := fun _ _ _ => True) with
  | nil => exact .nil
  | cons h t _ ih => simp only [List.reverse_cons]; exact ih.append (.cons h .nil)
  | _ => trivial
theorem RVs.eraseIdx : ∀ {xs : List PV} {vs : List V} (i : Nat), RVs K μ H xs vs → RVs K μ H (xs.eraseIdx i) (vs.eraseIdx i)
  | _, _, _, .nil => .nil
  | _, _, 0, .cons _ t => t
  | _, _, i + 1, .cons q t => .cons q (RVs.eraseIdx i t)
theorem RO.mono' (R : RS K cm μ S H) (E : Up μ H μ' H') {a : Addr} {o : PObj} (h : RO K cm μ H a o) (e : H' a = H a) : RO K cm μ' H' a o := by
  cases o with
  | lst xs => obtain ⟨ws, e1, l, r⟩ := h; exact ⟨ws, e.trans e1, l, r.mono' R E⟩
  | dic xs => obtain ⟨ws, e1, l, r⟩ := h; exact ⟨ws, e.trans e1, l, r.mono' R E⟩
  | ins C fs => obtain ⟨Ca, dx, ws, c, e1, l, r⟩ := h; exact ⟨Ca, dx, ws, c, e.trans e1, l, r.mono' R E⟩
theorem RO.mono (R : RS K cm μ S H) (E : Ext μ H μ' H') {a : Addr} {o : PObj} (h : RO K cm μ H a o) (e : H' a = H a) : RO K cm μ' H' a o := h.mono' R E.up e
/-! ### the steps of the heap -/
/-- a new thing that is no thing of the store -/
theorem Ext.fresh {p : Addr} {o : HO} (hp : H p = none) : Ext μ H μ (upd H p o) :=
  ⟨fun _ _ h => h, fun _ h => .inl h, fun b u h _ => by rw [upd_ne (ne_of_none h hp)]; exact h⟩
theorem RS.fresh {p : Addr} {o : HO} (R : RS K cm μ S H) (hp : H p = none) : RS K cm μ S (upd H p o) :=
  ⟨R.len, R.nd, fun i a ob h e => (R.ob i a ob h e).mono R (Ext.fresh hp) (by
    have hm : a ∈ μ := List.mem_of_getElem? h
    rw [upd_ne]
    intro z; subst z; exact R.trk hm hp)⟩
/-- a new thing of the store -/
theorem Ext.grow {p : Addr} {o : HO} (hp : H p = none) : Ext μ H (μ ++ [p]) (upd H p o) where
  pre := fun i a h => by
    rw [List.getElem?_append_left (List.getElem?_eq_some_iff.mp h).1]; exact h
  new := fun b h => by
    rcases List.mem_append.mp h with h | h
    · exact .inl h
    · rw [List.mem_singleton.mp h]; exact .inr hp
  kp := fun b u h _ => by rw [upd_ne (ne_of_none h hp)]; exact h
theorem RS.grow {p : Addr} {o : HO} {ob : PObj} (R : RS K cm μ S H) (hp : H p = none) (r : RO K cm (μ ++ [p]) (upd H p o) p ob) : RS K cm (μ ++ [p]) (S ++ [ob]) (upd H p o) := by
  have hn : p ∉ μ := fun h => R.trk h hp
  refine ⟨by simp [R.len], ?_, fun i a o' h e => ?_⟩
  · rw [List.nodup_append]
    exact ⟨R.nd, by simp, fun a ha b hb => by rw [List.mem_singleton.mp hb]; rintro rfl; exact hn ha⟩
  · by_cases hi : i < μ.length
    · rw [List.getElem?_append_left hi] at h
      rw [List.getElem?_append_left (by rw [← R.len]; exact hi)] at e
      refine (R.ob i a o' h e).mono R (Ext.grow hp) ?_
      rw [upd_ne]
      rintro rfl
      exact hn (List.mem_of_getElem? h)
    · have hl : i = μ.length := by
        have := (List.getElem?_eq_some_iff.mp h).1
        simp at this
        omega
      subst hl
      rw [List.getElem?_append_right (Nat.le_refl _), Nat.sub_self] at h
      rw [R.len, List.getElem?_append_right (Nat.le_refl _), Nat.sub_self] at e
      simp at h e
      subst h e
      exact r
/-- a thing of the store is changed -/
theorem Ext.put {i : Nat} {a : Addr} {o : HO} (h : μ[i]? = some a) : Ext μ H μ (upd H a o) :=
  ⟨fun _ _ h => h, fun _ h => .inl h, fun b u e hb => by rw [upd_ne]; exact e; rintro rfl; exact hb (List.mem_of_getElem? h)⟩
theorem RS.put {i : Nat} {a : Addr} {o : HO} {ob : PObj} (R : RS K cm μ S H) (h : μ[i]? = some a) (r : RO K cm μ (upd H a o) a ob) : RS K cm μ (S.set i ob) (upd H a o) := by
  refine ⟨by simp [R.len], R.nd, fun j b o' hj e => ?_⟩
  by_cases hij : j = i
  · subst hij
    rw [h] at hj; cases hj
    rw [List.getElem?_set_self (by rw [← R.len]; exact (List.getElem?_eq_some_iff.mp h).1)] at e
    cases e
    exact r
  · rw [List.getElem?_set_ne (Ne.symm hij)] at e
    refine (R.ob j b o' hj e).mono R (Ext.put h) ?_
    rw [upd_ne]
    rintro rfl
    exact hij (nd_ix R.nd hj h)
end

theorem Ext.none' {K : PySem.W.Frag} {cm : Str → Value → Prop} {μ μ1 : List Addr} {H H1 : Hp} {S1 : Store} (E : Ext μ H μ1 H1) (R : RS K cm μ1 S1 H1) {q : Addr} (h : H1 q = none) : H q = none := by
  cases he : H q with
  | none => rfl
  | some o =>
    by_cases ha : q ∈ μ
    · obtain ⟨i, hi⟩ := List.mem_iff_getElem?.mp ha
      exact absurd h (R.trk (List.mem_of_getElem? (E.pre i q hi)))
    · rw [E.kp q o he ha] at h; cases h
/-! a list that stands gets a number -/
section
variable {K : PySem.W.Frag} {cm : Str → Value → Prop}
theorem adopt {μ : List Addr} {S : Store} {H : Hp} {a : Addr} {o : PObj} (R : RS K cm μ S H) (hm : a ∉ μ) (ha : RO K cm μ H a o)
    {μ0 : List Addr} {H0 : Hp} (E0 : Ext μ0 H0 μ H) (h0 : H0 a = none) : Ext μ0 H0 (μ ++ [a]) H ∧ RS K cm (μ ++ [a]) (S ++ [o]) H := by
  have E1 : ∀ (i : Nat) (b : Addr), μ[i]? = some b → (μ ++ [a])[i]? = some b := fun i b h => by
    rw [List.getElem?_append_left (List.getElem?_eq_some_iff.mp h).1]; exact h
  have up : Up μ H (μ ++ [a]) H := ⟨E1, fun _ _ h _ => h⟩
  refine ⟨⟨fun i b h => E1 i b (E0.pre i b h), fun b hb => ?_, E0.kp⟩, by simp [R.len], ?_, fun i b o' h e => ?_⟩
  · rcases List.mem_append.mp hb with hb | hb
    · exact E0.new b hb
    · rw [List.mem_singleton.mp hb]; exact .inr h0
  · rw [List.nodup_append]
    exact ⟨R.nd, by simp, fun x hx y hy => by rw [List.mem_singleton.mp hy]; rintro rfl; exact hm hx⟩
  · by_cases hi : i < μ.length
    · rw [List.getElem?_append_left hi] at h
      rw [List.getElem?_append_left (by rw [← R.len]; exact hi)] at e
      exact (R.ob i b o' h e).mono' R up rfl
    · have hl : i = μ.length := by
        have := (List.getElem?_eq_some_iff.mp h).1
        simp at this
        omega
      subst hl
      rw [List.getElem?_append_right (Nat.le_refl _), Nat.sub_self] at h
      rw [R.len, List.getElem?_append_right (Nat.le_refl _), Nat.sub_self] at e
      simp at h e
      subst h e
      exact ha.mono' R up rfl
end
/-! ### what is wanted behind a step -/
section
variable (K : PySem.W.Frag) (cm : Str → Value → Prop)
/-- an exception as it lies: its class, its own dict -/
def RX (μ : List Addr) (H : Hp) (e : PX) (cls : Value) (d : Option Addr) : Prop :=
  cm e.nm cls ∧ ((e.fd = [] ∧ d = none) ∨ ∃ da fv, d = some da ∧ H da = some (.xd fv) ∧ RKs K μ H e.fd fv)
def Post (μ : List Addr) (H : Hp) (r : Res PV) (Q : VK) (W : XK) : Prop := match r with
  | .ok x S => ∀ μ' H' v, Ext μ H μ' H' → RS K cm μ' S H' → RV K μ' H' x v → Q v H'
  | .exc e S => ∀ μ' H' cls d, Ext μ H μ' H' → RS K cm μ' S H' → RX K cm μ' H' e cls d → W cls d H'
  | .bad => False
def PostB (μ : List Addr) (H : Hp) (r : Res Bool) (Q : Bool → Hp → Prop) (W : XK) : Prop := match r with
  | .ok b S => ∀ μ' H', Ext μ H μ' H' → RS K cm μ' S H' → Q b H'
  | .exc e S => ∀ μ' H' cls d, Ext μ H μ' H' → RS K cm μ' S H' → RX K cm μ' H' e cls d → W cls d H'
  | .bad => False
def PostA (μ : List Addr) (H : Hp) (r : Res (List PV)) (Q : List V → Hp → Prop) (W : XK) : Prop := match r with
  | .ok xs S => ∀ μ' H' vs, Ext μ H μ' H' → RS K cm μ' S H' → RVs K μ' H' xs vs → Q vs H'
  | .exc e S => ∀ μ' H' cls d, Ext μ H μ' H' → RS K cm μ' S H' → RX K cm μ' H' e cls d → W cls d H'
  | .bad => False
/-- a list at its address; a new one: nothing stood there (H0) -/
def RL (H0 : Hp) (μ : List Addr) (S : Store) (H : Hp) (l : LL) (a : Addr) : Prop := match l.2 with
  | none => H0 a = none ∧ a ∉ μ ∧ ∃ vs, H a = some (.lst vs) ∧ l.1.length ≤ sizeLine ∧ RVs K μ H l.1 vs
  | some j => μ[j]? = some a ∧ S[j]? = some (.lst l.1)
def PostL (μ : List Addr) (H : Hp) (r : Res LL) (Q : VK) (W : XK) : Prop := match r with
  | .ok l S => ∀ μ' H' a, Ext μ H μ' H' → RS K cm μ' S H' → RL K H μ' S H' l a → Q (.ref a) H'
  | .exc e S => ∀ μ' H' cls d, Ext μ H μ' H' → RS K cm μ' S H' → RX K cm μ' H' e cls d → W cls d H'
  | .bad => False
/-- is the list still as it was -/
def lkOk (l : LL) (S : Store) : Prop := match l.2 with
  | none => True
  | some j => S[j]? = some (.lst l.1)
noncomputable instance (l : LL) (S : Store) : Decidable (lkOk l S) := Classical.propDecidable _
/-- is what is walked still as it was -/
def lkI (l : LI) (S : Store) : Prop := match l.2 with
  | none => True
  | some (.one j xs) => S[j]? = some (.lst xs)
  | some (.two j xs k ys) => S[j]? = some (.lst xs) ∧ S[k]? = some (.lst ys)
noncomputable instance (l : LI) (S : Store) : Decidable (lkI l S) := Classical.propDecidable _
/-- what is walked -/
structure ItOk (J : It) (μ0 : List Addr) (H0 : Hp) (l : LI) : Prop where
  len : l.1.length ≤ sizeLine
  step : ∀ (i : Nat) (μ : List Addr) (S : Store) (H : Hp), Ext μ0 H0 μ H → RS K cm μ S H → lkI l S → (l.1.length ≤ i → J.stop i H) ∧
    ∀ x, l.1[i]? = some x → J.go i H ∧ ∀ v H', J.yld i H v H' → Ext μ H μ H' ∧ RS K cm μ S H' ∧ RV K μ H' x v
def PostI (μ : List Addr) (H : Hp) (r : Res LI) (R : It → Hp → Prop) (W : XK) : Prop := match r with
  | .ok l S => ∀ μ' H' J, Ext μ H μ' H' → RS K cm μ' S H' → ItOk K cm J μ' H' l → R J H'
  | .exc e S => ∀ μ' H' cls d, Ext μ H μ' H' → RS K cm μ' S H' → RX K cm μ' H' e cls d → W cls d H'
  | .bad => False
def PostS (μ : List Addr) (H : Hp) (r : SR) (D : Ends) (W : WX) : Prop := match r with
  | .nx ρ S => ∀ μ' H' σ, Ext μ H μ' H' → RS K cm μ' S H' → RE K μ' H' ρ σ → D.nx σ H'
  | .brk ρ S => ∀ μ' H' σ, Ext μ H μ' H' → RS K cm μ' S H' → RE K μ' H' ρ σ → D.bk σ H'
  | .cnt ρ S => ∀ μ' H' σ, Ext μ H μ' H' → RS K cm μ' S H' → RE K μ' H' ρ σ → D.ct σ H'
  | .ret x S => ∀ μ' H' v, Ext μ H μ' H' → RS K cm μ' S H' → RV K μ' H' x v → D.rt v H'
  | .exc e ρ S => ∀ μ' H' σ cls d, Ext μ H μ' H' → RS K cm μ' S H' → RE K μ' H' ρ σ → RX K cm μ' H' e cls d → W cls d σ H'
  | .bad => False
abbrev atσ (W : WX) (σ : L2.St) : XK := fun c d H => W c d σ H
def SE (W : WX) (ev : TV) : TE := fun σ H Q => ∃ μ S ρ, RS K cm μ S H ∧ RE K μ H ρ σ ∧ Post K cm μ H (ev ρ S) Q (atσ W σ)
def ST (W : WX) (ev : TB) : TT := fun σ H Q => ∃ μ S ρ, RS K cm μ S H ∧ RE K μ H ρ σ ∧ PostB K cm μ H (ev ρ S) Q (atσ W σ)
def SA (W : WX) (ev : TVs) : TA := fun σ H Q => ∃ μ S ρ, RS K cm μ S H ∧ RE K μ H ρ σ ∧ PostA K cm μ H (ev ρ S) Q (atσ W σ)
def SL (W : WX) (ev : TL) : TE := fun σ H Q => ∃ μ S ρ, RS K cm μ S H ∧ RE K μ H ρ σ ∧ PostL K cm μ H (ev ρ S) Q (atσ W σ)
def SI (W : WX) (ev : TIt) : TI := fun σ H R => ∃ μ S ρ, RS K cm μ S H ∧ RE K μ H ρ σ ∧ PostI K cm μ H (ev ρ S) R (atσ W σ)
def SS (W : WX) (st : TSt) : TS := fun D σ H => ∃ μ S ρ, RS K cm μ S H ∧ RE K μ H ρ σ ∧ PostS K cm μ H (st ρ S) D W
end
end Ev

/-! Fw2: expressions. -/
namespace Ev
open PySem PySem.Spec PyProof.Rows L2
/-! ### weakening -/
section
variable {X : Cx}
theorem PE.imp {e : Expr} {t t' : TE} (h : PE X e t) (w : ∀ σ H Q, t' σ H Q → t σ H Q) : PE X e t' := ⟨fun pins s σ H Q I q => h.run pins s σ H Q I (w σ H Q q)⟩
theorem PT.imp {e : Expr} {t t' : TT} (h : PT X e t) (w : ∀ σ H Q, t' σ H Q → t σ H Q) : PT X e t' := ⟨fun pins s σ H Q I q => h.run pins s σ H Q I (w σ H Q q)⟩
theorem PW.imp {e : Expr} {t t' : TT} (h : PW X e t) (w : ∀ σ H Q, t' σ H Q → t σ H Q) : PW X e t' := ⟨fun wh pins s σ H Q I q => h.run wh pins s σ H Q I (w σ H Q q)⟩
theorem PA.imp {es : List Expr} {t t' : TA} (h : PA X es t) (w : ∀ σ H Q, t' σ H Q → t σ H Q) : PA X es t' := ⟨fun pos pins s σ H Q I q => h.run pos pins s σ H Q I (w σ H Q q)⟩
theorem PI.imp {tg e : Expr} {t t' : TI} (h : PI X tg e t) (w : ∀ σ H Q, t' σ H Q → t σ H Q) : PI X tg e t' := ⟨fun pins s σ H Q I q => h.run pins s σ H Q I (w σ H Q q)⟩
theorem PS.imp {st : Stmt} {t t' : TS} (h : PS X st t) (w : ∀ D σ H, t' D σ H → t D σ H) : PS X st t' := ⟨fun pins s σ H D I q => h.run pins s σ H D I (w D σ H q)⟩
theorem PSs.imp {st : List Stmt} {t t' : TS} (h : PSs X st t) (w : ∀ D σ H, t' D σ H → t D σ H) : PSs X st t' := ⟨fun pins s σ H D I q => h.run pins s σ H D I (w D σ H q)⟩
theorem PE.or {e : Expr} {t t' : TE} (h : PE X e t) (h' : PE X e t') : PE X e (fun σ H Q => t σ H Q ∨ t' σ H Q) :=
  ⟨fun pins s σ H Q I q => q.elim (h.run pins s σ H Q I) (h'.run pins s σ H Q I)⟩
end
section
variable {K : PySem.W.Frag} {cm : Str → Value → Prop} {μ μ' μ1 μ2 : List Addr} {H H' H1 H2 : Hp} {S S' : Store} {ρ : Env'} {σ : L2.St} {W W' : XK}
theorem Post.ext (E : Ext μ H μ1 H1) {r : Res PV} {Q : VK} (h : Post K cm μ H r Q W) : Post K cm μ1 H1 r Q W := by
  cases r with
  | ok x S => exact fun μ' H' v e r q => h μ' H' v (E.trans e) r q
  | exc x S => exact fun μ' H' c d e r q => h μ' H' c d (E.trans e) r q
  | bad => exact h
theorem PostB.ext (E : Ext μ H μ1 H1) {r : Res Bool} {Q : Bool → Hp → Prop} (h : PostB K cm μ H r Q W) : PostB K cm μ1 H1 r Q W := by
  cases r with
  | ok x S => exact fun μ' H' e r => h μ' H' (E.trans e) r
  | exc x S => exact fun μ' H' c d e r q => h μ' H' c d (E.trans e) r q
  | bad => exact h
theorem PostA.ext (E : Ext μ H μ1 H1) {r : Res (List PV)} {Q : List V → Hp → Prop} (h : PostA K cm μ H r Q W) : PostA K cm μ1 H1 r Q W := by
  cases r with
  | ok x S => exact fun μ' H' v e r q => h μ' H' v (E.trans e) r q
  | exc x S => exact fun μ' H' c d e r q => h μ' H' c d (E.trans e) r q
  | bad => exact h
theorem RL.back (E : Ext μ H μ1 H1) (e : Ext μ1 H1 μ2 H2) {l : LL} {a : Addr} (h : RL K H1 μ2 S H2 l a) : RL K H μ2 S H2 l a := by
  unfold RL at h ⊢
  split at h
  · obtain ⟨h0, hm, q⟩ := h
    refine ⟨?_, hm, q⟩
    cases he : H a with
    | none => rfl
    | some o =>
      by_cases ha : a ∈ μ
      · obtain ⟨i, hi⟩ := List.mem_iff_getElem?.mp ha
        exact absurd (List.mem_of_getElem? (e.pre i a (E.pre i a hi))) hm
      · rw [E.kp a o he ha] at h0; cases h0
  · exact h
theorem PostL.ext (E : Ext μ H μ1 H1) {r : Res LL} {Q : VK} (h : PostL K cm μ H r Q W) : PostL K cm μ1 H1 r Q W := by
  cases r with
  | ok x S => exact fun μ' H' v e r q => h μ' H' v (E.trans e) r (q.back E e)
  | exc x S => exact fun μ' H' c d e r q => h μ' H' c d (E.trans e) r q
  | bad => exact h
theorem PostI.ext (E : Ext μ H μ1 H1) {r : Res LI} {Q : It → Hp → Prop} (h : PostI K cm μ H r Q W) : PostI K cm μ1 H1 r Q W := by
  cases r with
  | ok x S => exact fun μ' H' v e r q => h μ' H' v (E.trans e) r q
  | exc x S => exact fun μ' H' c d e r q => h μ' H' c d (E.trans e) r q
  | bad => exact h
theorem PostS.ext (E : Ext μ H μ1 H1) {r : SR} {D : Ends} {W : WX} (h : PostS K cm μ H r D W) : PostS K cm μ1 H1 r D W := by
  cases r with
  | nx ρ S => exact fun μ' H' σ e r q => h μ' H' σ (E.trans e) r q
  | brk ρ S => exact fun μ' H' σ e r q => h μ' H' σ (E.trans e) r q
  | cnt ρ S => exact fun μ' H' σ e r q => h μ' H' σ (E.trans e) r q
  | ret x S => exact fun μ' H' v e r q => h μ' H' v (E.trans e) r q
  | exc x ρ S => exact fun μ' H' σ c d e r q z => h μ' H' σ c d (E.trans e) r q z
  | bad => exact h
theorem Post.mono {r : Res PV} {Q Q' : VK} (h : Post K cm μ H r Q W) (w : ∀ v H', Q v H' → Q' v H') : Post K cm μ H r Q' W := by
  cases r with
  | ok x S => exact fun μ' H' v e r q => w _ _ (h μ' H' v e r q)
  | exc x S => exact h
  | bad => exact h
theorem PostB.mono {r : Res Bool} {Q Q' : Bool → Hp → Prop} (h : PostB K cm μ H r Q W) (w : ∀ v H', Q v H' → Q' v H') : PostB K cm μ H r Q' W := by
  cases r with
  | ok x S => exact fun μ' H' e r => w _ _ (h μ' H' e r)
  | exc x S => exact h
  | bad => exact h
/-! ### one step behind another -/
/-- behind a value: the state in which f goes on -/
theorem Post.step {α : Type} {r : Res PV} {f : PV → Store → Res α} {P : List Addr → Hp → Res α → Prop} {Q : VK}
    (h : P μ H (r.bind f)) (hexc : ∀ e S, P μ H (.exc e S) → Post K cm μ H (.exc e S) Q W) (hbad : P μ H .bad → False)
    (hok : ∀ x S μ' H' v, Ext μ H μ' H' → RS K cm μ' S H' → RV K μ' H' x v → P μ H (f x S) → Q v H') : Post K cm μ H r Q W := by
  cases r with
  | ok x S => exact fun μ' H' v e r q => hok x S μ' H' v e r q h
  | exc e S => exact hexc e S h
  | bad => exact hbad h
theorem PostB.step {α : Type} {r : Res Bool} {f : Bool → Store → Res α} {P : List Addr → Hp → Res α → Prop} {Q : Bool → Hp → Prop}
    (h : P μ H (r.bind f)) (hexc : ∀ e S, P μ H (.exc e S) → PostB K cm μ H (.exc e S) Q W) (hbad : P μ H .bad → False)
    (hok : ∀ x S μ' H', Ext μ H μ' H' → RS K cm μ' S H' → P μ H (f x S) → Q x H') : PostB K cm μ H r Q W := by
  cases r with
  | ok x S => exact fun μ' H' e r => hok x S μ' H' e r h
  | exc e S => exact hexc e S h
  | bad => exact hbad h
theorem PostA.step {α : Type} {r : Res (List PV)} {f : List PV → Store → Res α} {P : List Addr → Hp → Res α → Prop} {Q : List V → Hp → Prop}
    (h : P μ H (r.bind f)) (hexc : ∀ e S, P μ H (.exc e S) → PostA K cm μ H (.exc e S) Q W) (hbad : P μ H .bad → False)
    (hok : ∀ x S μ' H' v, Ext μ H μ' H' → RS K cm μ' S H' → RVs K μ' H' x v → P μ H (f x S) → Q v H') : PostA K cm μ H r Q W := by
  cases r with
  | ok x S => exact fun μ' H' v e r q => hok x S μ' H' v e r q h
  | exc e S => exact hexc e S h
  | bad => exact hbad h
theorem PostL.step {α : Type} {r : Res LL} {f : LL → Store → Res α} {P : List Addr → Hp → Res α → Prop} {Q : VK}
    (h : P μ H (r.bind f)) (hexc : ∀ e S, P μ H (.exc e S) → PostL K cm μ H (.exc e S) Q W) (hbad : P μ H .bad → False)
    (hok : ∀ x S μ' H' a, Ext μ H μ' H' → RS K cm μ' S H' → RL K H μ' S H' x a → P μ H (f x S) → Q (.ref a) H') : PostL K cm μ H r Q W := by
  cases r with
  | ok x S => exact fun μ' H' v e r q => hok x S μ' H' v e r q h
  | exc e S => exact hexc e S h
  | bad => exact hbad h
end

/-! ### the words of an expression -/
section
variable {X : Cx} {W : WX}
abbrev cmX (X : Cx) : Str → Value → Prop := fun n c => X.mg n = some c
abbrev E_ (X : Cx) (W : WX) (ev : TV) : TE := SE X.K (cmX X) W ev
abbrev T_ (X : Cx) (W : WX) (ev : TB) : TT := ST X.K (cmX X) W ev
abbrev A_ (X : Cx) (W : WX) (ev : TVs) : TA := SA X.K (cmX X) W ev
abbrev L_ (X : Cx) (W : WX) (ev : TL) : TE := SL X.K (cmX X) W ev
abbrev I_ (X : Cx) (W : WX) (ev : TIt) : TI := SI X.K (cmX X) W ev
abbrev S_ (X : Cx) (W : WX) (st : TSt) : TS := SS X.K (cmX X) W st

def ofO (o : Option PV) (S : Store) : Res PV := match o with
  | some x => .ok x S
  | none => .bad
def ofB (o : Option Bool) (S : Store) : Res Bool := match o with
  | some x => .ok x S
  | none => .bad
@[simp] theorem ofO_some (x : PV) (S : Store) : ofO (some x) S = .ok x S := rfl
@[simp] theorem ofO_none (S : Store) : ofO none S = .bad := rfl
@[simp] theorem ofB_some (x : Bool) (S : Store) : ofB (some x) S = .ok x S := rfl
@[simp] theorem ofB_none (S : Store) : ofB none S = .bad := rfl
def vVar (i : Nat) : TV := fun ρ S => match ρ[i]? with
  | some (some x) => .ok x S
  | _ => .bad
def vC (x : PV) : TV := fun _ S => .ok x S
def vStr (x : Str) : TV := fun _ S => if SOk x then .ok (.str x) S else .bad
/-- two values, then an operation on them that changes nothing -/
def vBin (f : PV → PV → Store → Option PV) (a b : TV) : TV := fun ρ S => (a ρ S).bind fun x S => (b ρ S).bind fun y S => ofO (f x y S) S
def vUn (f : PV → Store → Option PV) (a : TV) : TV := fun ρ S => (a ρ S).bind fun x S => ofO (f x S) S
def vChn (f g : PV → PV → Store → Option PV) (a b c : TV) : TV := fun ρ S => (a ρ S).bind fun x S => (b ρ S).bind fun y S =>
  match f x y S with
  | some (.bl true) => (c ρ S).bind fun z S => ofO (g y z S) S
  | some (.bl false) => .ok (.bl false) S
  | _ => .bad
theorem sv_var {i : Nat} {x : Str} {pos : Pos} (h : PE X (.Name x pos) (tVar i)) : PE X (.Name x pos) (E_ X W (vVar i)) := by
  refine PE.imp h fun σ H Q h => ?_
  obtain ⟨μ, S, ρ, R, E, p⟩ := h
  unfold vVar at p
  split at p
  · rename_i x hx
    obtain ⟨v, e, r⟩ := E.2 i x hx
    exact ⟨v, e, p μ H v Ext.refl R r⟩
  · exact p.elim
theorem sv_int {i : Int} {j pos} : PE X (.Constant (.int i) j pos) (E_ X W (vC (.int i))) :=
  PE.imp pe_int fun σ H Q ⟨μ, S, ρ, R, E, p⟩ => p μ H _ Ext.refl R (.int i)
theorem sv_bl {b : Bool} {j pos} : PE X (.Constant (.bool b) j pos) (E_ X W (vC (.bl b))) :=
  PE.imp pe_bl fun σ H Q ⟨μ, S, ρ, R, E, p⟩ => p μ H _ Ext.refl R (.bl b)
theorem sv_non {j pos} : PE X (.Constant .none j pos) (E_ X W (vC .non)) :=
  PE.imp pe_non fun σ H Q ⟨μ, S, ρ, R, E, p⟩ => p μ H _ Ext.refl R .non
theorem sv_str {x : Str} {j pos} : PE X (.Constant (.str x) j pos) (E_ X W (vStr x)) := by
  refine PE.imp pe_str fun σ H Q h => ?_
  obtain ⟨μ, S, ρ, R, E, p⟩ := h
  unfold vStr at p
  split at p
  · rename_i hl; exact p μ H _ Ext.refl R (.str x hl)
  · exact p.elim
/-- a binary operation on values -/
def rO (K : PySem.W.Frag) (cm : Str → Value → Prop) (f : PV → PV → Store → Option PV) : R2 := fun v w H Q => ∃ μ S x y z, RS K cm μ S H ∧ RV K μ H x v ∧ RV K μ H y w ∧ f x y S = some z ∧
  ∀ H' u, Ext μ H μ H' → RS K cm μ S H' → RV K μ H' z u → Q u H'
def rU1 (K : PySem.W.Frag) (cm : Str → Value → Prop) (f : PV → Store → Option PV) : V → Hp → VK → Prop := fun v H Q => ∃ μ S x z, RS K cm μ S H ∧ RV K μ H x v ∧ f x S = some z ∧
  ∀ H' u, Ext μ H μ H' → RS K cm μ S H' → RV K μ H' z u → Q u H'
abbrev OpS (X : Cx) (g : Value → Value → Sem Value) (f : PV → PV → Store → Option PV) : Prop := OpR X g (rO X.K (cmX X) f)
theorem vBin_imp {f : PV → PV → Store → Option PV} {ea eb : TV} {σ : L2.St} {H : Hp} {Q : VK} (h : E_ X W (vBin f ea eb) σ H Q) : tOp (rO X.K (cmX X) f) (E_ X W ea) (E_ X W eb) σ H Q := by
  obtain ⟨μ, S, ρ, R, E, p⟩ := h
  refine ⟨μ, S, ρ, R, E, Post.step (P := fun μ H r => Post X.K (cmX X) μ H r Q (atσ W σ)) p (fun _ _ h => h) (fun h => h) fun x S1 μ1 H1 v E1 R1 rv p => ?_⟩
  refine ⟨μ1, S1, ρ, R1, E.mono R E1, Post.step (P := fun μ H r => Post X.K (cmX X) μ H r Q (atσ W σ)) (p.ext E1) (fun _ _ h => h) (fun h => h) fun y S2 μ2 H2 w E2 R2 rw p => ?_⟩
  cases hf : f x y S2 with
  | none => rw [hf] at p; exact p.elim
  | some z =>
    rw [hf] at p
    exact ⟨μ2, S2, x, y, z, R2, rv.mono R1 E2, rw, hf, fun H' u E3 R3 r3 => p μ2 H' u (E2.trans E3) R3 r3⟩
variable {a b c : Expr} {ea eb ec : TV} {pos : Pos}
theorem sv_bin {op : Operator} {f : PV → PV → Store → Option PV} (ho : OpS X (binaryOp op) f) (ha : PE X a (E_ X W ea)) (hb : PE X b (E_ X W eb)) : PE X (.BinOp a op b pos) (E_ X W (vBin f ea eb)) :=
  PE.imp (pe_op ho ha hb) fun _ _ _ h => vBin_imp h
theorem sv_cmp {op : CmpOp} {f : PV → PV → Store → Option PV} (ho : OpS X (compareOp op) f) (ha : PE X a (E_ X W ea)) (hb : PE X b (E_ X W eb)) (hm : behindInMarks op b = false) : PE X (.Compare a [op] [b] pos) (E_ X W (vBin f ea eb)) :=
  PE.imp (pe_cmpR ho ha hb hm) fun _ _ _ h => vBin_imp h
theorem sv_un {op : UnaryOp} {f : PV → Store → Option PV} (ho : UnR X (unaryOp op) (rU1 X.K (cmX X) f)) (ha : PE X a (E_ X W ea)) : PE X (.UnaryOp op a pos) (E_ X W (vUn f ea)) := by
  refine PE.imp (pe_un ho ha) fun σ H Q h => ?_
  obtain ⟨μ, S, ρ, R, E, p⟩ := h
  refine ⟨μ, S, ρ, R, E, Post.step (P := fun μ H r => Post X.K (cmX X) μ H r Q (atσ W σ)) p (fun _ _ h => h) (fun h => h) fun x S1 μ1 H1 v E1 R1 rv p => ?_⟩
  cases hf : f x S1 with
  | none => rw [hf] at p; exact p.elim
  | some z =>
    rw [hf] at p
    exact ⟨μ1, S1, x, z, R1, rv, hf, fun H' u E3 R3 r3 => p μ1 H' u (E1.trans E3) R3 r3⟩
theorem vChn_imp {f g : PV → PV → Store → Option PV} {σ : L2.St} {H : Hp} {Q : VK} (h : E_ X W (vChn f g ea eb ec) σ H Q) : tChain (rO X.K (cmX X) f) (rO X.K (cmX X) g) (E_ X W ea) (E_ X W eb) (E_ X W ec) σ H Q := by
  obtain ⟨μ, S, ρ, R, E, p⟩ := h
  refine ⟨μ, S, ρ, R, E, Post.step (P := fun μ H r => Post X.K (cmX X) μ H r Q (atσ W σ)) p (fun _ _ h => h) (fun h => h) fun x S1 μ1 H1 v E1 R1 rv p => ?_⟩
  refine ⟨μ1, S1, ρ, R1, E.mono R E1, Post.step (P := fun μ H r => Post X.K (cmX X) μ H r Q (atσ W σ)) (p.ext E1) (fun _ _ h => h) (fun h => h) fun y S2 μ2 H2 w E2 R2 rw p => ?_⟩
  have rv2 := rv.mono R1 E2
  cases hf : f x y S2 with
  | none => rw [hf] at p; exact p.elim
  | some z =>
    rw [hf] at p
    refine ⟨μ2, S2, x, y, z, R2, rv2, rw, hf, fun H' u E3 R3 r3 => ?_⟩
    cases z with
    | bl k =>
      cases r3
      refine ⟨k, rfl, ?_⟩
      cases k with
      | true =>
        rw [if_pos rfl]
        refine ⟨μ2, S2, ρ, R3, (E.mono R E1).mono R1 (E2.trans E3), Post.step (P := fun μ H r => Post X.K (cmX X) μ H r Q (atσ W σ)) ((Post.ext E2 p).ext E3) (fun _ _ h => h) (fun h => h) fun z S4 μ4 H4 w4 E4 R4 r4 p => ?_⟩
        cases hg : g y z S4 with
        | none => rw [hg] at p; exact p.elim
        | some t =>
          rw [hg] at p
          exact ⟨μ4, S4, y, z, t, R4, (rw.mono R2 E3).mono R3 E4, r4, hg, fun H' u E5 R5 r5 => p μ4 H' u (E4.trans E5) R5 r5⟩
      | false =>
        rw [if_neg (by decide)]
        exact p μ2 H' _ (E2.trans E3) R3 (.bl false)
    | _ => exact p.elim
theorem sv_chn {op op' : CmpOp} {f g : PV → PV → Store → Option PV} (ho : OpS X (compareOp op) f) (ho' : OpS X (compareOp op') g) (ha : PE X a (E_ X W ea)) (hb : PE X b (E_ X W eb)) (hc : PE X c (E_ X W ec))
    (hm : lastMarks [op, op'] [b, c] = false := by with_unfolding_all rfl) : PE X (.Compare a [op, op'] [b, c] pos) (E_ X W (vChn f g ea eb ec)) :=
  PE.imp (pe_chain ho ho' ha hb hc hm) fun _ _ _ h => vChn_imp h
/-! ### truth -/
def truth : PV → Store → Option Bool
  | .non, _ => some false
  | .bl b, _ => some b
  | .int i, _ => some (i != 0)
  | .str y, _ => some ((y.length : Int) != 0)
  | .tup xs, _ => some (!xs.isEmpty)
  | .frl xs, _ => some (!xs.isEmpty)
  | .ref i, S => match S[i]? with
    | some (.lst xs) => some (!xs.isEmpty)
    | some (.dic kvs) => some (!kvs.isEmpty)
    | _ => none
/-- a value as a test -/
def bV (e : TV) : TB := fun ρ S => (e ρ S).bind fun x S => ofB (truth x S) S
def bBl (e : TV) : TB := fun ρ S => (e ρ S).bind fun x S => match x with
  | .bl b => .ok b S
  | _ => .bad
theorem isEmpty_of {α β : Type} {xs : List α} {ys : List β} (h : xs.length = ys.length) : xs.isEmpty = ys.isEmpty := by
  cases xs <;> cases ys <;> simp_all
theorem RKs.length {K : PySem.W.Frag} {μ : List Addr} {H : Hp} {κ : Type} {xs : List (κ × PV)} {vs : List (κ × V)} (h : RKs K μ H xs vs) : xs.length = vs.length := Paired.length h
theorem truth_ok {μ : List Addr} {S : Store} {H : Hp} {x : PV} {v : V} {b : Bool} {cm : Str → Value → Prop} (R : RS X.K cm μ S H) (r : RV X.K μ H x v) (h : truth x S = some b) : TruV X.K v H b := by
  cases r with
  | non => cases h; rfl
  | bl b => cases h; rfl
  | int i => cases h; rfl
  | str y hl => cases h; exact ⟨hl.1, rfl⟩
  | tup s l r => cases h; exact .inr (.inl ⟨_, s, by rw [isEmpty_of r.length]⟩)
  | frl s l r => cases h; exact .inl ⟨_, s.sq, by rw [isEmpty_of r.length]⟩
  | @ref i a hi =>
    simp only [truth] at h
    split at h
    · rename_i xs e
      obtain ⟨vs, e1, l, r⟩ := R.ob i a _ hi e
      cases h
      exact .inl ⟨vs, SqL.of e1, by rw [isEmpty_of r.length]⟩
    · rename_i kvs e
      obtain ⟨vs, e1, l, r⟩ := R.ob i a _ hi e
      cases h
      exact .inr (.inr ⟨vs, e1, by rw [isEmpty_of r.length]⟩)
    · cases h
theorem st_truth (ha : PE X a (E_ X W ea)) (he : ∀ whole, isTrue a X.env whole = (do let v ← whole; standAt a.pos; holding [v] (truthy v))) : PT X a (T_ X W (bV ea)) := by
  refine PT.imp (pt_truth ha he) fun σ H Q h => ?_
  obtain ⟨μ, S, ρ, R, E, p⟩ := h
  refine ⟨μ, S, ρ, R, E, Post.step (P := fun μ H r => PostB X.K (cmX X) μ H r Q (atσ W σ)) p (fun _ _ h => h) (fun h => h) fun x S1 μ1 H1 v E1 R1 rv p => ?_⟩
  cases hf : truth x S1 with
  | none => rw [hf] at p; exact p.elim
  | some b => rw [hf] at p; exact ⟨b, truth_ok R1 rv hf, p μ1 H1 E1 R1⟩
theorem st_cmp {op : CmpOp} {f : PV → PV → Store → Option PV} (ho : OpS X (compareOp op) f) (ha : PE X a (E_ X W ea)) (hb : PE X b (E_ X W eb)) (hm : behindInMarks op b = false) : PT X (.Compare a [op] [b] pos) (T_ X W (bBl (vBin f ea eb))) := by
  refine PT.imp (pt_cmpR ho ha hb hm) fun σ H Q h => ?_
  obtain ⟨μ, S, ρ, R, E, p⟩ := h
  refine vBin_imp ⟨μ, S, ρ, R, E, Post.step (P := fun μ H r => PostB X.K (cmX X) μ H r Q (atσ W σ)) p (fun _ _ h => h) (fun h => h) fun x S1 μ1 H1 v E1 R1 rv p => ?_⟩
  cases rv with
  | bl k => exact ⟨k, rfl, p μ1 H1 E1 R1⟩
  | _ => exact p.elim
theorem st_chn {op op' : CmpOp} {f g : PV → PV → Store → Option PV} (ho : OpS X (compareOp op) f) (ho' : OpS X (compareOp op') g) (ha : PE X a (E_ X W ea)) (hb : PE X b (E_ X W eb)) (hc : PE X c (E_ X W ec))
    (hm : lastMarks [op, op'] [b, c] = false := by with_unfolding_all rfl) : PT X (.Compare a [op, op'] [b, c] pos) (T_ X W (bBl (vChn f g ea eb ec))) := by
  refine PT.imp (pt_chain ho ho' ha hb hc hm) fun σ H Q h => ?_
  obtain ⟨μ, S, ρ, R, E, p⟩ := h
  refine vChn_imp ⟨μ, S, ρ, R, E, Post.step (P := fun μ H r => PostB X.K (cmX X) μ H r Q (atσ W σ)) p (fun _ _ h => h) (fun h => h) fun x S1 μ1 H1 v E1 R1 rv p => ?_⟩
  cases rv with
  | bl k => exact ⟨k, rfl, p μ1 H1 E1 R1⟩
  | _ => exact p.elim
/-! ### and, or, not, if -/
def bAnd (a b : TB) : TB := fun ρ S => (a ρ S).bind fun x S => if x = true then b ρ S else .ok false S
def bOr (a b : TB) : TB := fun ρ S => (a ρ S).bind fun x S => if x = true then .ok true S else b ρ S
def bNot (a : TB) : TB := fun ρ S => (a ρ S).bind fun x S => .ok (!x) S
def vAnd (a b : TV) : TV := fun ρ S => (a ρ S).bind fun x S => match x with
  | .bl true => b ρ S
  | .bl false => .ok (.bl false) S
  | _ => .bad
def vOr (a b : TV) : TV := fun ρ S => (a ρ S).bind fun x S => match x with
  | .bl false => b ρ S
  | .bl true => .ok (.bl true) S
  | _ => .bad
def vNot (a : TV) : TV := fun ρ S => (a ρ S).bind fun x S => match x with
  | .bl b => .ok (.bl (!b)) S
  | _ => .bad
def vIf (c : TB) (a b : TV) : TV := fun ρ S => (c ρ S).bind fun x S => if x = true then a ρ S else b ρ S
variable {ta tb : TB} {rest : List Expr}
theorem st_one_and (ha : PT X a (T_ X W ta)) : PW X (.BoolOp .And [a] pos) (T_ X W ta) := pw_and1 ha
theorem st_one_or (ha : PT X a (T_ X W ta)) : PW X (.BoolOp .Or [a] pos) (T_ X W ta) := pw_or1 ha
theorem st_and (ha : PT X a (T_ X W ta)) (hb : PW X (.BoolOp .And (b :: rest) pos) (T_ X W tb)) : PW X (.BoolOp .And (a :: b :: rest) pos) (T_ X W (bAnd ta tb)) := by
  refine PW.imp (pw_and ha hb) fun σ H Q h => ?_
  obtain ⟨μ, S, ρ, R, E, p⟩ := h
  refine ⟨μ, S, ρ, R, E, PostB.step (P := fun μ H r => PostB X.K (cmX X) μ H r Q (atσ W σ)) p (fun _ _ h => h) (fun h => h) fun x S1 μ1 H1 E1 R1 p => ?_⟩
  cases x with
  | true => exact ⟨μ1, S1, ρ, R1, E.mono R E1, p.ext E1⟩
  | false => exact p μ1 H1 E1 R1
theorem st_or (ha : PT X a (T_ X W ta)) (hb : PW X (.BoolOp .Or (b :: rest) pos) (T_ X W tb)) : PW X (.BoolOp .Or (a :: b :: rest) pos) (T_ X W (bOr ta tb)) := by
  refine PW.imp (pw_or ha hb) fun σ H Q h => ?_
  obtain ⟨μ, S, ρ, R, E, p⟩ := h
  refine ⟨μ, S, ρ, R, E, PostB.step (P := fun μ H r => PostB X.K (cmX X) μ H r Q (atσ W σ)) p (fun _ _ h => h) (fun h => h) fun x S1 μ1 H1 E1 R1 p => ?_⟩
  cases x with
  | false => exact ⟨μ1, S1, ρ, R1, E.mono R E1, p.ext E1⟩
  | true => exact p μ1 H1 E1 R1
theorem st_not (ha : PT X a (T_ X W ta)) : PT X (.UnaryOp .Not a pos) (T_ X W (bNot ta)) := by
  refine PT.imp (pt_not ha) fun σ H Q h => ?_
  obtain ⟨μ, S, ρ, R, E, p⟩ := h
  exact ⟨μ, S, ρ, R, E, PostB.step (P := fun μ H r => PostB X.K (cmX X) μ H r Q (atσ W σ)) p (fun _ _ h => h) (fun h => h) fun x S1 μ1 H1 E1 R1 p => p μ1 H1 E1 R1⟩
theorem sv_one {op} (h : PE X a (E_ X W ea)) : PE X (.BoolOp op [a] pos) (E_ X W ea) := pe_one h
theorem sv_and (ha : PE X a (E_ X W ea)) (hb : PE X (.BoolOp .And (b :: rest) pos) (E_ X W eb)) : PE X (.BoolOp .And (a :: b :: rest) pos) (E_ X W (vAnd ea eb)) := by
  refine PE.imp (pe_and ha hb) fun σ H Q h => ?_
  obtain ⟨μ, S, ρ, R, E, p⟩ := h
  refine ⟨μ, S, ρ, R, E, Post.step (P := fun μ H r => Post X.K (cmX X) μ H r Q (atσ W σ)) p (fun _ _ h => h) (fun h => h) fun x S1 μ1 H1 v E1 R1 rv p => ?_⟩
  cases rv with
  | bl k =>
    refine ⟨k, rfl, ?_⟩
    cases k with
    | true => exact ⟨μ1, S1, ρ, R1, E.mono R E1, Post.ext E1 p⟩
    | false => exact p μ1 H1 _ E1 R1 (.bl false)
  | _ => exact p.elim
theorem sv_or (ha : PE X a (E_ X W ea)) (hb : PE X (.BoolOp .Or (b :: rest) pos) (E_ X W eb)) : PE X (.BoolOp .Or (a :: b :: rest) pos) (E_ X W (vOr ea eb)) := by
  refine PE.imp (pe_or ha hb) fun σ H Q h => ?_
  obtain ⟨μ, S, ρ, R, E, p⟩ := h
  refine ⟨μ, S, ρ, R, E, Post.step (P := fun μ H r => Post X.K (cmX X) μ H r Q (atσ W σ)) p (fun _ _ h => h) (fun h => h) fun x S1 μ1 H1 v E1 R1 rv p => ?_⟩
  cases rv with
  | bl k =>
    refine ⟨k, rfl, ?_⟩
    cases k with
    | false => exact ⟨μ1, S1, ρ, R1, E.mono R E1, Post.ext E1 p⟩
    | true => exact p μ1 H1 _ E1 R1 (.bl true)
  | _ => exact p.elim
theorem sv_not (ha : PE X a (E_ X W ea)) : PE X (.UnaryOp .Not a pos) (E_ X W (vNot ea)) := by
  refine PE.imp (pe_not ha) fun σ H Q h => ?_
  obtain ⟨μ, S, ρ, R, E, p⟩ := h
  refine ⟨μ, S, ρ, R, E, Post.step (P := fun μ H r => Post X.K (cmX X) μ H r Q (atσ W σ)) p (fun _ _ h => h) (fun h => h) fun x S1 μ1 H1 v E1 R1 rv p => ?_⟩
  cases rv with
  | bl k => exact ⟨k, rfl, p μ1 H1 _ E1 R1 (.bl _)⟩
  | _ => exact p.elim
theorem sv_if {c : Expr} {tc : TB} (hc : PT X c (T_ X W tc)) (ha : PE X a (E_ X W ea)) (hb : PE X b (E_ X W eb)) : PE X (.IfExp c a b pos) (E_ X W (vIf tc ea eb)) := by
  refine PE.imp (pe_ifExp hc ha hb) fun σ H Q h => ?_
  obtain ⟨μ, S, ρ, R, E, p⟩ := h
  refine ⟨μ, S, ρ, R, E, PostB.step (P := fun μ H r => Post X.K (cmX X) μ H r Q (atσ W σ)) p (fun _ _ h => h) (fun h => h) fun x S1 μ1 H1 E1 R1 p => ?_⟩
  cases x with
  | true => rw [if_pos rfl] at p ⊢; exact ⟨μ1, S1, ρ, R1, E.mono R E1, Post.ext E1 p⟩
  | false => rw [if_neg (by decide)] at p ⊢; exact ⟨μ1, S1, ρ, R1, E.mono R E1, Post.ext E1 p⟩
/-! ### lists of values; tuples and lists written out -/
def vsNil : TVs := fun _ S => .ok [] S
def vsCons (a : TV) (r : TVs) : TVs := fun ρ S => (a ρ S).bind fun x S => (r ρ S).bind fun xs S => .ok (x :: xs) S
theorem sa_nil : PA X [] (A_ X W vsNil) :=
  PA.imp pa_nil fun σ H Q ⟨μ, S, ρ, R, E, p⟩ => p μ H _ Ext.refl R .nil
theorem sa_cons {e : Expr} {es : List Expr} {ev : TV} {evs : TVs} (ha : PE X e (E_ X W ev)) (hr : PA X es (A_ X W evs)) (hs : starEach (e :: es) X.env = (false, eval e X.env) :: starEach es X.env := by rfl) : PA X (e :: es) (A_ X W (vsCons ev evs)) := by
  refine PA.imp (pa_cons ha hr hs) fun σ H Q h => ?_
  obtain ⟨μ, S, ρ, R, E, p⟩ := h
  refine ⟨μ, S, ρ, R, E, Post.step (P := fun μ H r => PostA X.K (cmX X) μ H r Q (atσ W σ)) p (fun _ _ h => h) (fun h => h) fun x S1 μ1 H1 v E1 R1 rv p => ?_⟩
  refine ⟨μ1, S1, ρ, R1, E.mono R E1, PostA.step (P := fun μ H r => PostA X.K (cmX X) μ H r Q (atσ W σ)) (p.ext E1) (fun _ _ h => h) (fun h => h) fun xs S2 μ2 H2 vs E2 R2 rvs p => ?_⟩
  exact p μ2 H2 _ E2 R2 (.cons (rv.mono R1 E2) rvs)
def vTup (es : TVs) : TV := fun ρ S => (es ρ S).bind fun xs S => if xs.length ≤ sizeLine then .ok (.tup xs) S else .bad
def lDisp (es : TVs) : TL := fun ρ S => (es ρ S).bind fun xs S => if xs.length ≤ sizeLine then .ok (xs, none) S else .bad
/-- a new list becomes a thing of the store -/
def vNew (l : TL) : TV := fun ρ S => (l ρ S).bind fun l S => match l.2 with
  | none => .ok (.ref S.length) (S ++ [.lst l.1])
  | some j => .ok (.ref j) S
variable {es : List Expr} {evs : TVs} {el : TL}
theorem sv_tup {x1} (h : PA X es (A_ X W evs)) : PE X (.Tuple es x1 pos) (E_ X W (vTup evs)) := by
  refine PE.imp (pe_tup h) fun σ H Q h => ?_
  obtain ⟨μ, S, ρ, R, E, p⟩ := h
  refine ⟨μ, S, ρ, R, E, PostA.step (P := fun μ H r => Post X.K (cmX X) μ H r Q (atσ W σ)) p (fun _ _ h => h) (fun h => h) fun xs S1 μ1 H1 vs E1 R1 rvs p => ?_⟩
  split at p
  · rename_i hl
    refine ⟨by rw [← rvs.length]; exact hl, fun q hq => ?_⟩
    exact p μ1 _ _ (E1.trans (Ext.fresh hq)) (R1.fresh hq) (.tup (SqT.of upd_same) hl (rvs.mono R1 (Ext.fresh hq)))
  · exact p.elim
theorem sl_disp (h : PA X es (A_ X W evs)) : PE X (.List es pos) (L_ X W (lDisp evs)) := by
  refine PE.imp (pe_lst h) fun σ H Q h => ?_
  obtain ⟨μ, S, ρ, R, E, p⟩ := h
  refine ⟨μ, S, ρ, R, E, PostA.step (P := fun μ H r => PostL X.K (cmX X) μ H r Q (atσ W σ)) p (fun _ _ h => h) (fun h => h) fun xs S1 μ1 H1 vs E1 R1 rvs p => ?_⟩
  split at p
  · rename_i hl
    refine ⟨by rw [← rvs.length]; exact hl, fun q hq => ?_⟩
    exact p μ1 _ _ (E1.trans (Ext.fresh hq)) (R1.fresh hq) ⟨E1.none' R1 hq, fun hm => R1.trk hm hq, vs, upd_same, hl, rvs.mono R1 (Ext.fresh hq)⟩
  · exact p.elim
theorem sv_new {e : Expr} (h : PE X e (L_ X W el)) : PE X e (E_ X W (vNew el)) := by
  refine PE.imp h fun σ H Q h => ?_
  obtain ⟨μ, S, ρ, R, E, p⟩ := h
  refine ⟨μ, S, ρ, R, E, PostL.step (P := fun μ H r => Post X.K (cmX X) μ H r Q (atσ W σ)) p (fun _ _ h => h) (fun h => h) fun l S1 μ1 H1 a E1 R1 rl p => ?_⟩
  unfold RL at rl
  split at rl
  · rename_i hn
    rw [hn] at p
    obtain ⟨h0, hm, vs, ha, hl, r⟩ := rl
    obtain ⟨E2, R2⟩ := adopt (o := .lst l.1) R1 hm ⟨vs, ha, hl, r⟩ E1 h0
    refine p _ _ _ E2 R2 (.ref ?_)
    rw [List.getElem?_append_right (by rw [R1.len]; exact Nat.le_refl _), R1.len, Nat.sub_self]
    rfl
  · rename_i j hn
    rw [hn] at p
    exact p _ _ _ E1 R1 (.ref rl.1)
end
end Ev

/-! Fw3: operations on values, subscripts, slices. -/
namespace Ev
open PySem PySem.Spec PyProof.Rows L2
/-! ### data: equality -/
mutual
def PV.eqv : PV → PV → Bool
  | .non, .non => true
  | .bl a, .bl b => a == b
  | .bl a, .int j => (if a then 1 else 0) == j
  | .int i, .bl b => i == (if b then 1 else 0)
  | .int i, .int j => i == j
  | .str x, .str y => x == y
  | .tup xs, .tup ys => PV.eqvs xs ys
  | .frl xs, .frl ys => PV.eqvs xs ys
  | _, _ => false
def PV.eqvs : List PV → List PV → Bool
  | [], [] => true
  | x :: xs, y :: ys => PV.eqv x y && PV.eqvs xs ys
  | _, _ => false
end
/-! no thing of the store in it -/
mutual
def PV.dat : PV → Bool
  | .ref _ => false
  | .tup xs => PV.dats xs
  | .frl xs => PV.dats xs
  | _ => true
def PV.dats : List PV → Bool
  | [] => true
  | x :: xs => PV.dat x && PV.dats xs
end
mutual
def PV.dep : PV → Nat
  | .tup xs => PV.deps xs + 1
  | .frl xs => PV.deps xs + 1
  | _ => 0
def PV.deps : List PV → Nat
  | [] => 0
  | x :: xs => max (PV.dep x) (PV.deps xs)
end
mutual
def PV.pd : PV → PyData
  | .non => .none
  | .bl b => .bool b
  | .int i => .int i
  | .str x => .str x
  | .tup xs => .tuple (PV.pds xs)
  | .frl xs => .list (PV.pds xs)
  | .ref _ => .none
def PV.pds : List PV → List PyData
  | [] => []
  | x :: xs => PV.pd x :: PV.pds xs
end
mutual
theorem PV.eqv_pd : ∀ x y : PV, x.dat = true → y.dat = true → PyData.eqv x.pd y.pd = PV.eqv x y
  | .tup xs, y, hx, hy => by
    cases y <;> simp only [PV.pd, PyData.eqv, PV.eqv]
    · exact PV.eqvs_pd xs _ (by simpa [PV.dat] using hx) (by simpa [PV.dat] using hy)
  | .frl xs, y, hx, hy => by
    cases y <;> simp only [PV.pd, PyData.eqv, PV.eqv]
    · exact PV.eqvs_pd xs _ (by simpa [PV.dat] using hx) (by simpa [PV.dat] using hy)
  | .ref _, y, hx, hy => by simp [PV.dat] at hx
  | .non, y, hx, hy => by cases y <;> first | rfl | (simp [PV.dat] at hy)
  | .bl _, y, hx, hy => by cases y <;> first | rfl | (simp [PV.dat] at hy) | simp only [PV.pd, PyData.eqv, PV.eqv]
  | .int _, y, hx, hy => by cases y <;> first | rfl | (simp [PV.dat] at hy) | simp only [PV.pd, PyData.eqv, PV.eqv]
  | .str _, y, hx, hy => by cases y <;> first | rfl | (simp [PV.dat] at hy) | simp only [PV.pd, PyData.eqv, PV.eqv]
theorem PV.eqvs_pd : ∀ xs ys : List PV, PV.dats xs = true → PV.dats ys = true → PyData.eqvAll (PV.pds xs) (PV.pds ys) = PV.eqvs xs ys
  | [], [], _, _ => rfl
  | [], _ :: _, _, _ => rfl
  | _ :: _, [], _, _ => rfl
  | x :: xs, y :: ys, hx, hy => by
    simp only [PV.dats, Bool.and_eq_true] at hx hy
    simp only [PV.pds, PyData.eqvAll, PV.eqvs, PV.eqv_pd x y hx.1 hy.1, PV.eqvs_pd xs ys hx.2 hy.2]
end
mutual
theorem PV.dep_pd : ∀ x : PV, x.pd.depth = x.dep
  | .tup xs => by simp only [PV.pd, PyData.depth, PV.dep, PV.deps_pd xs]
  | .frl xs => by simp only [PV.pd, PyData.depth, PV.dep, PV.deps_pd xs]
  | .non => rfl
  | .bl _ => rfl
  | .int _ => rfl
  | .str _ => rfl
  | .ref _ => rfl
theorem PV.deps_pd : ∀ xs : List PV, PyData.depthAll (PV.pds xs) = PV.deps xs
  | [] => rfl
  | x :: xs => by simp only [PV.pds, PyData.depthAll, PV.deps, PV.dep_pd x, PV.deps_pd xs]
end
/-- a list that is read: its items -/
def deref (S : Store) (x : PV) : PV := match x with
  | .ref i => match S[i]? with
    | some (.lst xs) => .frl xs
    | _ => .ref i
  | x => x
/-- how deep data may be that are compared -/
def deepest : Nat := 190
/-- at a: a list or a tuple of vs -/
def SqA (K : PySem.W.Frag) (H : Hp) (a : Addr) (t : Bool) (vs : List V) : Prop := if t = true then SqT K H a vs else SqL K H a vs
section
variable {K : PySem.W.Frag} {cm : Str → Value → Prop} {μ : List Addr} {H : Hp} {S : Store}
mutual
theorem RV.dp : ∀ {x : PV} {v : V}, RV K μ H x v → x.dat = true → Dp K H v x.pd ∧ x.pd.canLay0 = true
  | _, _, .non, _ => ⟨.non, rfl⟩
  | _, _, .bl b, _ => ⟨.bl b, rfl⟩
  | _, _, .int i, _ => ⟨.int i, rfl⟩
  | _, _, .str x h, _ => ⟨.str x, h.2⟩
  | _, _, .tup s l r, d => ⟨.tup s (RVs.dp r d).1, (RVs.dp r d).2⟩
  | _, _, .frl s l r, d => ⟨.lst s.sq (RVs.dp r d).1, (RVs.dp r d).2⟩
  | _, _, .ref _, d => absurd (show false = true from d) (by decide)
theorem RVs.dp : ∀ {xs : List PV} {vs : List V}, RVs K μ H xs vs → PV.dats xs = true → DpAll K H vs (PV.pds xs) ∧ PyData.canLayAll0 (PV.pds xs) = true
  | _, _, .nil, _ => ⟨.nil, rfl⟩
  | _, _, .cons h t, d => by
    simp only [PV.dats, Bool.and_eq_true] at d
    obtain ⟨a, b⟩ := RV.dp h d.1
    obtain ⟨c, e⟩ := RVs.dp t d.2
    exact ⟨.cons a c, by simp only [PV.pds, PyData.canLayAll0, b, e, Bool.and_self]⟩
end
theorem deref_dp (R : RS K cm μ S H) {x : PV} {v : V} (r : RV K μ H x v) (d : (deref S x).dat = true) : Dp K H v (deref S x).pd ∧ (deref S x).pd.canLay0 = true := by
  cases r with
  | @ref i a hi =>
    simp only [deref] at d ⊢
    split at d
    · rename_i xs e
      obtain ⟨vs, e1, l, r⟩ := R.ob i a _ hi e
      obtain ⟨p, q⟩ := RVs.dp r (by simpa [PV.dat] using d)
      exact ⟨.lst (SqL.of e1) p, q⟩
    · simp [PV.dat] at d
  | non => exact RV.dp (μ := μ) .non d
  | bl b => exact RV.dp (μ := μ) (.bl b) d
  | int i => exact RV.dp (μ := μ) (.int i) d
  | str x h => exact RV.dp (μ := μ) (.str x h) d
  | tup s l r => exact RV.dp (μ := μ) (.tup s l r) d
  | frl s l r => exact RV.dp (μ := μ) (.frl s l r) d
/-- what stands at the address of a list or a tuple -/
theorem deref_seq (R : RS K cm μ S H) {x : PV} {v : V} (r : RV K μ H x v) :
    (∀ xs, deref S x = .frl xs → ∃ a vs, v = .ref a ∧ SqL K H a vs ∧ xs.length ≤ sizeLine ∧ RVs K μ H xs vs) ∧ (∀ xs, deref S x = .tup xs → ∃ a vs, v = .ref a ∧ SqT K H a vs ∧ xs.length ≤ sizeLine ∧ RVs K μ H xs vs) ∧ (∀ z, deref S x = .str z → v = .str z ∧ SOk z) ∧ (∀ z, deref S x = .int z → v = .int z) := by
  cases r with
  | @ref i a hi =>
    simp only [deref]
    split
    · rename_i xs e
      obtain ⟨vs, e1, l, r⟩ := R.ob i a _ hi e
      exact ⟨fun ys h => (by cases h; exact ⟨a, vs, rfl, SqL.of e1, l, r⟩), fun _ h => (by cases h), fun _ h => (by cases h), fun _ h => (by cases h)⟩
    · exact ⟨fun ys h => (by cases h), fun _ h => (by cases h), fun _ h => (by cases h), fun _ h => (by cases h)⟩
  | non => exact ⟨fun ys h => (by cases h), fun _ h => (by cases h), fun _ h => (by cases h), fun _ h => (by cases h)⟩
  | bl b => exact ⟨fun ys h => (by cases h), fun _ h => (by cases h), fun _ h => (by cases h), fun _ h => (by cases h)⟩
  | int i => exact ⟨fun ys h => (by cases h), fun _ h => (by cases h), fun _ h => (by cases h), fun _ h => (by cases h; rfl)⟩
  | str x hx => exact ⟨fun ys h => (by cases h), fun _ h => (by cases h), fun _ h => (by cases h; exact ⟨rfl, hx⟩), fun _ h => (by cases h)⟩
  | tup s l r => exact ⟨fun ys h => (by cases h), fun _ h => (by cases h; exact ⟨_, _, rfl, s, l, r⟩), fun _ h => (by cases h), fun _ h => (by cases h)⟩
  | frl s l r => exact ⟨fun ys h => (by cases h; exact ⟨_, _, rfl, s.sq, l, r⟩), fun _ h => (by cases h), fun _ h => (by cases h), fun _ h => (by cases h)⟩
end
/-! ### operations -/
def oAdd (x y : PV) (_ : Store) : Option PV := match x, y with
  | .int a, .int b => some (.int (a + b))
  | .str a, .str b => if a.length + b.length ≤ sizeLine then some (.str (a ++ b)) else none
  | .tup a, .tup b => if a.length + b.length ≤ sizeLine then some (.tup (a ++ b)) else none
  | _, _ => none
def oSub (x y : PV) (_ : Store) : Option PV := match x, y with
  | .int a, .int b => some (.int (a - b))
  | _, _ => none
def oMul (x y : PV) (_ : Store) : Option PV := match x, y with
  | .int a, .int b => if (-(2 ^ 64) < a ∧ a < 2 ^ 64) ∨ (-(2 ^ 64) < b ∧ b < 2 ^ 64) then some (.int (a * b)) else none
  | _, _ => none
def oDiv (x y : PV) (_ : Store) : Option PV := match x, y with
  | .int a, .int b => if 0 < b ∧ b < 1073741824 then some (.int (a / b)) else none
  | _, _ => none
def oMod (x y : PV) (_ : Store) : Option PV := match x, y with
  | .int a, .int b => if 0 < b then some (.int (a % b)) else none
  | _, _ => none
def oPow (x y : PV) (_ : Store) : Option PV := match x, y with
  | .int a, .int b => if 0 ≤ b ∧ b ≤ 1000000 ∧ a.natAbs < 2 ^ 64 then some (.int (a ^ b.toNat)) else none
  | _, _ => none
def oNeg (x : PV) (_ : Store) : Option PV := match x with
  | .int a => some (.int (-a))
  | _ => none
def oLt (x y : PV) (_ : Store) : Option PV := match x, y with
  | .int a, .int b => some (.bl (decide (a < b)))
  | .str a, .str b => some (.bl (decide (a.cps.toList < b.cps.toList)))
  | _, _ => none
def oLe (x y : PV) (_ : Store) : Option PV := match x, y with
  | .int a, .int b => some (.bl (decide (a ≤ b)))
  | _, _ => none
def oGt (x y : PV) (_ : Store) : Option PV := match x, y with
  | .int a, .int b => some (.bl (decide (b < a)))
  | _, _ => none
def oGe (x y : PV) (_ : Store) : Option PV := match x, y with
  | .int a, .int b => some (.bl (decide (b ≤ a)))
  | _, _ => none
/-- with nothing: whatever stands in the other one -/
def emptyEq (x y : PV) : Option Bool := match x, y with
  | .tup xs, .tup ys => if xs.isEmpty || ys.isEmpty then some (xs.length == ys.length) else none
  | .frl xs, .frl ys => if xs.isEmpty || ys.isEmpty then some (xs.length == ys.length) else none
  | _, _ => none
def eqS (S : Store) (x y : PV) : Option Bool :=
  if (deref S x).dat = true ∧ (deref S y).dat = true ∧ (deref S x).dep ≤ deepest then some (PV.eqv (deref S x) (deref S y)) else emptyEq (deref S x) (deref S y)
def oEq (x y : PV) (S : Store) : Option PV := (eqS S x y).map .bl
def oNe (x y : PV) (S : Store) : Option PV := (eqS S x y).map fun b => .bl (!b)
def inStr (a b : Str) : Bool := !(Builtin.Str.occurrences b a 0 b.length 1).isEmpty
def inS (S : Store) (x y : PV) : Option Bool := match deref S y with
  | .frl ys => if (deref S x).dat = true ∧ PV.dats ys = true ∧ PV.deps ys ≤ deepest then some (ys.any fun z => PV.eqv z (deref S x)) else none
  | .tup ys => if (deref S x).dat = true ∧ PV.dats ys = true ∧ PV.deps ys ≤ deepest then some (ys.any fun z => PV.eqv z (deref S x)) else none
  | .str b => match x with
    | .str a => some (inStr a b)
    | _ => none
  | _ => none
def oIn (x y : PV) (S : Store) : Option PV := (inS S x y).map .bl
def oNotIn (x y : PV) (S : Store) : Option PV := (inS S x y).map fun b => .bl (!b)
def PV.isNon : PV → Bool
  | .non => true
  | _ => false
def oIs (x y : PV) (_ : Store) : Option PV := if y.isNon = true then some (.bl x.isNon) else none
def oIsNot (x y : PV) (_ : Store) : Option PV := if y.isNon = true then some (.bl (!x.isNon)) else none

section
variable {X : Cx} {W : WX}
theorem strOk_app {a b : Str} (ha : PyData.strOk a = true) (hb : PyData.strOk b = true) : PyData.strOk (a ++ b) = true := by
  simp only [PyData.strOk, Array.all_eq_true_iff_forall_mem, decide_eq_true_eq] at ha hb ⊢
  intro c hc
  have : (a ++ b).cps = a.cps ++ b.cps := rfl
  rw [this, Array.mem_append] at hc
  exact hc.elim (ha c) (hb c)
theorem os_add : OpS X (binaryOp .Add) oAdd := by
  intro pins s σ H x y v u Q I rx ry h
  obtain ⟨μ, S, a, b, z, R, ra, rb, hf, q⟩ := h
  cases ra with
  | int i =>
    cases rb with
    | int j => cases hf; exact op_add pins s σ H _ _ v u Q I rx ry ⟨i, j, rfl, rfl, q H _ Ext.refl R (.int _)⟩
    | _ => simp [oAdd] at hf
  | str i hi =>
    cases rb with
    | str j hj =>
      simp only [oAdd] at hf
      split at hf
      · rename_i hl
        cases hf
        have hlen : (i ++ j).length = i.length + j.length := by simp [TL.len_tl, TL.tl_append]
        exact op_add_str pins s σ H _ _ v u Q I rx ry ⟨i, j, rfl, rfl, hl, q H _ Ext.refl R (.str _ ⟨by rw [hlen]; exact hl, strOk_app hi.2 hj.2⟩)⟩
      · cases hf
    | _ => simp [oAdd] at hf
  | @tup a1 xs vs s1 l1 r1 =>
    cases rb with
    | @tup a2 ys ws s2 l2 r2 =>
      simp only [oAdd] at hf
      split at hf
      · rename_i hl
        cases hf
        refine op_catA pins s σ H _ _ v u Q I rx ry ⟨a1, a2, vs, ws, rfl, rfl, s1, s2, by rw [← r1.length, ← r2.length]; exact hl, fun e => ?_, fun e1 e => ?_, fun e1 e2 p hp => ?_⟩
        · have : xs = [] := List.length_eq_zero_iff.mp (by rw [r1.length, e]; rfl)
          subst this
          exact q H _ Ext.refl R (.tup s2 l2 r2)
        · have : ys = [] := List.length_eq_zero_iff.mp (by rw [r2.length, e]; rfl)
          subst this
          rw [List.append_nil] at q
          exact q H _ Ext.refl R (.tup s1 l1 r1)
        · exact q _ _ (Ext.fresh hp) (R.fresh hp) (.tup (SqT.of upd_same) (by rw [List.length_append]; exact hl) ((r1.append r2).mono R (Ext.fresh hp)))
      · cases hf
    | _ => simp [oAdd] at hf
  | _ => simp [oAdd] at hf
/-- ints to an int -/
theorem osI {g : Value → Value → Sem Value} {C : Int → Int → Prop} {G : Int → Int → Int} {f : PV → PV → Store → Option PV} (ho : OpR X g (rI C fun i j => .int (G i j)))
    (hf : ∀ x y S z, f x y S = some z → ∃ i j, x = .int i ∧ y = .int j ∧ C i j ∧ z = .int (G i j)) : OpS X g f := by
  intro pins s σ H x y v u Q I rx ry h
  obtain ⟨μ, S, a, b, z, R, ra, rb, hz, q⟩ := h
  obtain ⟨i, j, rfl, rfl, c, rfl⟩ := hf _ _ _ _ hz
  cases ra; cases rb
  exact ho pins s σ H _ _ v u Q I rx ry ⟨i, j, rfl, rfl, c, q H _ Ext.refl R (.int _)⟩
theorem osB {g : Value → Value → Sem Value} {G : Int → Int → Bool} {f : PV → PV → Store → Option PV} (ho : OpR X g (rI0 fun i j => .bl (G i j)))
    (hf : ∀ x y S z, f x y S = some z → ∃ i j, x = .int i ∧ y = .int j ∧ z = .bl (G i j)) : OpS X g f := by
  intro pins s σ H x y v u Q I rx ry h
  obtain ⟨μ, S, a, b, z, R, ra, rb, hz, q⟩ := h
  obtain ⟨i, j, rfl, rfl, rfl⟩ := hf _ _ _ _ hz
  cases ra; cases rb
  exact ho pins s σ H _ _ v u Q I rx ry ⟨i, j, rfl, rfl, q H _ Ext.refl R (.bl _)⟩
theorem os_sub : OpS X (binaryOp .Sub) oSub := by
  refine osI (C := fun _ _ => True) (G := fun i j => i - j) (fun pins s σ H x y v u Q I rx ry ⟨i, j, e1, e2, _, q⟩ => op_sub pins s σ H x y v u Q I rx ry ⟨i, j, e1, e2, q⟩) fun x y S z h => ?_
  cases x <;> cases y <;> simp [oSub] at h
  exact ⟨_, _, rfl, rfl, trivial, h.symm⟩
theorem os_mul : OpS X (binaryOp .Mult) oMul := by
  refine osI op_mul fun x y S z h => ?_
  cases x <;> cases y <;> simp only [oMul] at h
  all_goals first | (split at h <;> first | (cases h; exact ⟨_, _, rfl, rfl, by assumption, rfl⟩) | cases h) | cases h
theorem os_div : OpS X (binaryOp .FloorDiv) oDiv := by
  refine osI op_fdiv fun x y S z h => ?_
  cases x <;> cases y <;> simp only [oDiv] at h
  all_goals first | (split at h <;> first | (cases h; exact ⟨_, _, rfl, rfl, by assumption, rfl⟩) | cases h) | cases h
theorem os_mod : OpS X (binaryOp .Mod) oMod := by
  refine osI op_mod fun x y S z h => ?_
  cases x <;> cases y <;> simp only [oMod] at h
  all_goals first | (split at h <;> first | (cases h; exact ⟨_, _, rfl, rfl, by assumption, rfl⟩) | cases h) | cases h
theorem os_pow : OpS X (binaryOp .Pow) oPow := by
  refine osI op_pow fun x y S z h => ?_
  cases x <;> cases y <;> simp only [oPow] at h
  all_goals first | (split at h <;> first | (cases h; exact ⟨_, _, rfl, rfl, by assumption, rfl⟩) | cases h) | cases h
theorem os_neg : UnR X (unaryOp .USub) (rU1 X.K (cmX X) oNeg) := by
  intro pins s σ H x v Q I rx h
  obtain ⟨μ, S, a, z, R, ra, hf, q⟩ := h
  cases ra with
  | int i => cases hf; exact un_neg pins s σ H _ v Q I rx ⟨i, rfl, q H _ Ext.refl R (.int _)⟩
  | _ => simp [oNeg] at hf
theorem os_lt : OpS X (compareOp .Lt) oLt := by
  intro pins s σ H x y v u Q I rx ry h
  obtain ⟨μ, S, a, b, z, R, ra, rb, hf, q⟩ := h
  cases ra with
  | int i =>
    cases rb with
    | int j => cases hf; exact op_lt pins s σ H _ _ v u Q I rx ry ⟨i, j, rfl, rfl, q H _ Ext.refl R (.bl _)⟩
    | _ => simp [oLt] at hf
  | str i hi =>
    cases rb with
    | str j hj => cases hf; exact op_lt_str pins s σ H _ _ v u Q I rx ry ⟨i, j, rfl, rfl, q H _ Ext.refl R (.bl _)⟩
    | _ => simp [oLt] at hf
  | _ => simp [oLt] at hf
theorem os_le : OpS X (compareOp .LtE) oLe := by
  refine osB op_le fun x y S z h => ?_
  cases x <;> cases y <;> simp only [oLe] at h <;> first | (cases h; exact ⟨_, _, rfl, rfl, rfl⟩) | cases h
theorem os_gt : OpS X (compareOp .Gt) oGt := by
  refine osB op_gt fun x y S z h => ?_
  cases x <;> cases y <;> simp only [oGt] at h <;> first | (cases h; exact ⟨_, _, rfl, rfl, rfl⟩) | cases h
theorem os_ge : OpS X (compareOp .GtE) oGe := by
  refine osB op_ge fun x y S z h => ?_
  cases x <;> cases y <;> simp only [oGe] at h <;> first | (cases h; exact ⟨_, _, rfl, rfl, rfl⟩) | cases h
/-- with an empty one: both answers -/
theorem empty_core {pins : List (Addr × Obj)} {s : Shared} {σ : L2.St} {H : Hp} {x y : PV} {v w : V} {cv cw : Value} {μ : List Addr} {S : Store} {b : Bool} (hu : X.A.units + 195 < cLine) (I : Inv X pins σ H s) (R : RS X.K (cmX X) μ S H) (rx : RV X.K μ H x v) (ry : RV X.K μ H y w) (cx : RelV v cv) (cy : RelV w cw)
    (h : emptyEq (deref S x) (deref S y) = some b) : (∀ Q : Value → Shared → Prop, Q (.bool b) s → wpAny (model X.prog X.w) X.A (compareOp .Eq cv cw) Q X.xe s) ∧ ∀ Q : Value → Shared → Prop, Q (.bool (!b)) s → wpAny (model X.prog X.w) X.A (compareOp .NotEq cv cw) Q X.xe s := by
  have dx := deref_seq R rx
  have dy := deref_seq R ry
  unfold emptyEq at h
  split at h
  · rename_i xs ys ex ey
    split at h
    · rename_i hc
      cases h
      obtain ⟨a, vs, rfl, s1, l1, r1⟩ := dx.2.1 xs ex
      obtain ⟨a2, ws, rfl, s2, l2, r2⟩ := dy.2.1 ys ey
      cases cx; cases cy
      obtain ⟨i1, v1, p1, _⟩ := I.tuple s1
      obtain ⟨i2, v2, p2, _⟩ := I.tuple s2
      have n1 : i1.toArray.size = xs.length := by rw [r1.length, v1.length]; simp
      have n2 : i2.toArray.size = ys.length := by rw [r2.length, v2.length]; simp
      have hm : min i1.toArray.size i2.toArray.size = 0 := by
        rw [n1, n2]
        simp only [Bool.or_eq_true, List.isEmpty_iff] at hc
        rcases hc with h | h <;> (rw [h]; simp)
      have e : ((List.range (min i1.toArray.size i2.toArray.size)).all (fun _ => true) && i1.toArray.size == i2.toArray.size) = (xs.length == ys.length) := by
        rw [n1, n2]; simp
      refine ⟨fun Q q => ?_, fun Q q => ?_⟩
      · refine SeqAt.RcAt.tuples (e := fun _ => true) p1 p2 (by omega) (fun j h1 h2 => ?_) X.prog X.w X.xe Q (by rw [e]; exact q)
        have : j < min i1.toArray.size i2.toArray.size := Nat.lt_min.mpr ⟨h1, h2⟩
        omega
      · refine SeqAt.RcNeAt.tuples (e := fun _ => true) p1 p2 (by omega) (fun j h1 h2 => ?_) X.prog X.w X.xe Q (by rw [e]; exact q)
        have : j < min i1.toArray.size i2.toArray.size := Nat.lt_min.mpr ⟨h1, h2⟩
        omega
    · cases h
  · rename_i xs ys ex ey
    split at h
    · rename_i hc
      cases h
      obtain ⟨a, vs, rfl, s1, l1, r1⟩ := dx.1 xs ex
      obtain ⟨a2, ws, rfl, s2, l2, r2⟩ := dy.1 ys ey
      cases cx; cases cy
      obtain ⟨i1, v1, p1, _⟩ := I.list s1
      obtain ⟨i2, v2, p2, _⟩ := I.list s2
      have n1 : i1.toArray.size = xs.length := by rw [r1.length, v1.length]; simp
      have n2 : i2.toArray.size = ys.length := by rw [r2.length, v2.length]; simp
      by_cases hn : xs.length = ys.length
      · have h0 : i1.toArray.size = 0 := by
          simp only [Bool.or_eq_true, List.isEmpty_iff] at hc
          rw [n1]
          rcases hc with h | h
          · rw [h]; rfl
          · rw [hn, h]; rfl
        have e : ((List.range i1.toArray.size).all (fun _ => true)) = (xs.length == ys.length) := by rw [hn]; simp
        refine ⟨fun Q q => ?_, fun Q q => ?_⟩
        · exact SeqAt.RcAt.lists (e := fun _ => true) p1.isList p2.isList (by rw [n1, n2, hn]) (by omega) (fun j h1 h2 => by omega) X.prog X.w X.xe Q (by rw [e]; exact q)
        · exact SeqAt.RcNeAt.lists (e := fun _ => true) p1.isList p2.isList (by rw [n1, n2, hn]) (by omega) (fun j h1 h2 => by omega) X.prog X.w X.xe Q (by rw [e]; exact q)
      · have e : (xs.length == ys.length) = false := by simpa using hn
        rw [e]
        refine ⟨fun Q q => ?_, fun Q q => ?_⟩
        · exact SeqAt.RcAt.lists_lengths p1.isList p2.isList (by rw [n1, n2]; simpa using hn) (by omega) X.prog X.w X.xe Q q
        · exact SeqAt.RcNeAt.lists_lengths p1.isList p2.isList (by rw [n1, n2]; simpa using hn) (by omega) X.prog X.w X.xe Q q
    · cases h
  · cases h
theorem os_eq (hu : X.A.units + 195 < cLine) : OpS X (compareOp .Eq) oEq := by
  intro pins s σ H x y v u Q I rx ry h
  obtain ⟨μ, S, a, b, z, R, ra, rb, hf, q⟩ := h
  simp only [oEq, eqS] at hf
  split at hf
  · rename_i hc
    cases hf
    obtain ⟨d1, c1⟩ := deref_dp R ra hc.1
    obtain ⟨d2, c2⟩ := deref_dp R rb hc.2.1
    obtain ⟨as, w1⟩ := d1.reads I _ _ _ rx
    obtain ⟨bs, w2⟩ := d2.reads I _ _ _ ry
    refine SeqAt.compareEq_reads w1 w2 c1 c2 ?_ ⟨.bl _, H, I, ?_, q H _ Ext.refl R (.bl _)⟩
    · have := Nat.min_le_left (deref S a).pd.depth (deref S b).pd.depth
      have h2 := hc.2.2
      rw [← PV.dep_pd] at h2
      unfold deepest at h2
      omega
    · rw [PV.eqv_pd _ _ hc.1 hc.2.1]; rfl
  · simp only [Option.map_eq_some_iff] at hf
    obtain ⟨k, hk, rfl⟩ := hf
    exact (empty_core hu I R ra rb rx ry hk).1 _ ⟨.bl _, H, I, rfl, q H _ Ext.refl R (.bl _)⟩
theorem os_ne (hu : X.A.units + 195 < cLine) : OpS X (compareOp .NotEq) oNe := by
  intro pins s σ H x y v u Q I rx ry h
  obtain ⟨μ, S, a, b, z, R, ra, rb, hf, q⟩ := h
  simp only [oNe, eqS] at hf
  split at hf
  · rename_i hc
    cases hf
    obtain ⟨d1, c1⟩ := deref_dp R ra hc.1
    obtain ⟨d2, c2⟩ := deref_dp R rb hc.2.1
    obtain ⟨as, w1⟩ := d1.reads I _ _ _ rx
    obtain ⟨bs, w2⟩ := d2.reads I _ _ _ ry
    refine SeqAt.compareNe_reads w1 w2 c1 c2 ?_ ⟨.bl _, H, I, ?_, q H _ Ext.refl R (.bl _)⟩
    · have := Nat.min_le_left (deref S a).pd.depth (deref S b).pd.depth
      have h2 := hc.2.2
      rw [← PV.dep_pd] at h2
      unfold deepest at h2
      omega
    · rw [PV.eqv_pd _ _ hc.1 hc.2.1]; rfl
  · simp only [Option.map_eq_some_iff] at hf
    obtain ⟨k, hk, rfl⟩ := hf
    exact (empty_core hu I R ra rb rx ry hk).2 _ ⟨.bl _, H, I, rfl, q H _ Ext.refl R (.bl _)⟩
theorem any_pds (d : PV) (hd : d.dat = true) : ∀ ys : List PV, PV.dats ys = true → ((PV.pds ys).any fun y => PyData.eqv y d.pd) = ys.any fun z => PV.eqv z d
  | [], _ => rfl
  | y :: ys, h => by
    simp only [PV.dats, Bool.and_eq_true] at h
    simp only [PV.pds, List.any_cons, any_pds d hd ys h.2, PV.eqv_pd y d h.1 hd]
theorem in_core {op : CmpOp} {N : Bool → Bool} (hu : X.A.units + 195 < cLine)
    (rl : ∀ {s : Shared} {c x : Value} {xs : List PyData} {d : PyData} {as bs : List Addr} {Q : Value → Shared → Prop}, Reads s.heap c (.list xs) as → Reads s.heap x d bs → PyData.canLayAll0 xs = true → d.canLay0 = true →
      X.A.units + 1 + min (PyData.depthAll xs) d.depth < cLine → Q (.bool (N (xs.any fun y => PyData.eqv y d))) s → wpAny (model X.prog X.w) X.A (compareOp op x c) Q X.xe s)
    (rt : ∀ {s : Shared} {c x : Value} {xs : List PyData} {d : PyData} {as bs : List Addr} {Q : Value → Shared → Prop}, Reads s.heap c (.tuple xs) as → Reads s.heap x d bs → PyData.canLayAll0 xs = true → d.canLay0 = true →
      X.A.units + 1 + min (PyData.depthAll xs) d.depth < cLine → Q (.bool (N (xs.any fun y => PyData.eqv y d))) s → wpAny (model X.prog X.w) X.A (compareOp op x c) Q X.xe s)
    (rs : OpR X (compareOp op) (fun x y H Q => ∃ i j, x = .str i ∧ y = .str j ∧ Q (.bl (N (inStr i j))) H)) : OpS X (compareOp op) (fun x y S => (inS S x y).map fun b => .bl (N b)) := by
  intro pins s σ H x y v u Q I rx ry h
  obtain ⟨μ, S, a, b, z, R, ra, rb, hf, q⟩ := h
  simp only [inS] at hf
  have hs := deref_seq R rb
  split at hf
  · rename_i ys he
    split at hf
    · rename_i hc
      cases hf
      obtain ⟨d1, c1⟩ := deref_dp R ra hc.1
      obtain ⟨p, vs, rfl, sq, l, r⟩ := hs.1 ys he
      obtain ⟨d2, c2⟩ := RVs.dp r hc.2.1
      obtain ⟨as, w1⟩ := d1.reads I _ _ _ rx
      obtain ⟨bs, w2⟩ := (Dp.lst sq d2).reads I _ _ _ ry
      refine rl w2 w1 c2 c1 ?_ ⟨.bl _, H, I, ?_, q H _ Ext.refl R (.bl _)⟩
      · have := Nat.min_le_left (PyData.depthAll (PV.pds ys)) (deref S a).pd.depth
        have h2 := hc.2.2
        rw [← PV.deps_pd] at h2
        unfold deepest at h2
        omega
      · rw [any_pds _ hc.1 _ hc.2.1]; rfl
    · cases hf
  · rename_i ys he
    split at hf
    · rename_i hc
      cases hf
      obtain ⟨d1, c1⟩ := deref_dp R ra hc.1
      obtain ⟨p, vs, rfl, sq, l, r⟩ := hs.2.1 ys he
      obtain ⟨d2, c2⟩ := RVs.dp r hc.2.1
      obtain ⟨as, w1⟩ := d1.reads I _ _ _ rx
      obtain ⟨bs, w2⟩ := (Dp.tup sq d2).reads I _ _ _ ry
      refine rt w2 w1 c2 c1 ?_ ⟨.bl _, H, I, ?_, q H _ Ext.refl R (.bl _)⟩
      · have := Nat.min_le_left (PyData.depthAll (PV.pds ys)) (deref S a).pd.depth
        have h2 := hc.2.2
        rw [← PV.deps_pd] at h2
        unfold deepest at h2
        omega
      · rw [any_pds _ hc.1 _ hc.2.1]; rfl
    · cases hf
  · rename_i t he
    cases ra with
    | str i hi =>
      cases hf
      obtain ⟨rfl, _⟩ := hs.2.2.1 t he
      exact rs pins s σ H _ _ v u Q I rx ry ⟨i, t, rfl, rfl, q H _ Ext.refl R (.bl _)⟩
    | _ => simp at hf
  · cases hf
theorem os_in (hu : X.A.units + 195 < cLine) : OpS X (compareOp .In) oIn :=
  in_core (N := fun b => b) hu (fun r1 r2 c1 c2 hu h => SeqAt.in_list_reads r1 r2 c1 c2 hu h) (fun r1 r2 c1 c2 hu h => SeqAt.in_tuple_reads r1 r2 c1 c2 hu h) op_in_str
theorem os_notIn (hu : X.A.units + 195 < cLine) : OpS X (compareOp .NotIn) oNotIn :=
  in_core (N := fun b => !b) hu (fun r1 r2 c1 c2 hu h => SeqAt.notIn_list_reads r1 r2 c1 c2 hu h) (fun r1 r2 c1 c2 hu h => SeqAt.notIn_tuple_reads r1 r2 c1 c2 hu h) op_notin_str
theorem isNon_iff {K : PySem.W.Frag} {μ : List Addr} {H : Hp} {x : PV} {v : V} (r : RV K μ H x v) : decide (v = .non) = x.isNon := by
  cases r <;> rfl
theorem os_is : OpS X (compareOp .Is) oIs := by
  intro pins s σ H x y v u Q I rx ry h
  obtain ⟨μ, S, a, b, z, R, ra, rb, hf, q⟩ := h
  simp only [oIs] at hf
  split at hf
  · rename_i hn
    cases hf
    cases rb with
    | non => exact op_isN pins s σ H _ _ v u Q I rx ry ⟨rfl, q H _ Ext.refl R (by rw [isNon_iff ra]; exact .bl _)⟩
    | _ => cases hn
  · cases hf
theorem os_isNot : OpS X (compareOp .IsNot) oIsNot := by
  intro pins s σ H x y v u Q I rx ry h
  obtain ⟨μ, S, a, b, z, R, ra, rb, hf, q⟩ := h
  simp only [oIsNot] at hf
  split at hf
  · rename_i hn
    cases hf
    cases rb with
    | non => exact op_notN pins s σ H _ _ v u Q I rx ry ⟨rfl, q H _ Ext.refl R (by rw [isNon_iff ra]; exact .bl _)⟩
    | _ => cases hn
  · cases hf
end
end Ev

/-! Fw4: subscripts, slices, calls of built-in functions, methods of texts. -/
namespace Ev
open PySem PySem.Spec PyProof.Rows L2
/-! ### subscripts -/
def oIdx (x i : PV) (S : Store) : Option PV := match deref S x, i with
  | .tup xs, .int k => atI xs k
  | .frl xs, .int k => atI xs k
  | .str z, .int k => (atI z.cps.toList k).map fun c => .str ⟨#[c]⟩
  | _, _ => none
theorem RVs.at {K : PySem.W.Frag} {μ : List Addr} {H : Hp} {xs : List PV} {vs : List V} {k : Int} {z : PV} (r : RVs K μ H xs vs) (h : atI xs k = some z) : ∃ v, atI vs k = some v ∧ RV K μ H z v := by
  unfold atI at h ⊢
  rw [← r.length]
  cases e : ixN xs.length k with
  | none => rw [e] at h; cases h
  | some j => rw [e] at h; exact r.get h
theorem strOk_one {z : Str} {c : Nat} (h : PyData.strOk z = true) (m : c ∈ z.cps.toList) : SOk ⟨#[c]⟩ := by
  refine ⟨by show 1 ≤ sizeLine; decide, ?_⟩
  simp only [PyData.strOk, Array.all_eq_true_iff_forall_mem, decide_eq_true_eq] at h ⊢
  intro d hd
  have : d = c := by simpa using hd
  subst this
  exact h d (by simpa using m)
theorem atI_mem {α : Type} {xs : List α} {k : Int} {z : α} (h : atI xs k = some z) : z ∈ xs := by
  obtain ⟨j, _, e, _⟩ := atI_get h
  exact List.mem_of_getElem? e
section
variable {X : Cx} {W : WX} {a b : Expr} {ea eb : TV} {pos : Pos}
theorem os_idx : IxR X (rO X.K (cmX X) oIdx) := by
  intro value slice pins s σ H x y v u Q I rx ry h hp
  obtain ⟨μ, S, p, i, z, R, ra, rb, hf, q⟩ := h
  have hs := deref_seq R ra
  simp only [oIdx] at hf
  split at hf
  · rename_i xs k he
    obtain ⟨ad, vs, rfl, sq, l, r⟩ := hs.2.1 xs he
    obtain ⟨w, hw, rw⟩ := r.at hf
    cases rb
    exact ix_tup value slice pins s σ H _ _ v u Q I rx ry ⟨ad, vs, k, w, rfl, rfl, sq, hw, q H _ Ext.refl R rw⟩ hp
  · rename_i xs k he
    obtain ⟨ad, vs, rfl, sq, l, r⟩ := hs.1 xs he
    obtain ⟨w, hw, rw⟩ := r.at hf
    cases rb
    exact ix_list value slice pins s σ H _ _ v u Q I rx ry ⟨ad, vs, k, w, rfl, rfl, sq, hw, q H _ Ext.refl R rw⟩ hp
  · rename_i t k he
    obtain ⟨rfl, ok⟩ := hs.2.2.1 t he
    cases rb
    cases hc : atI t.cps.toList k with
    | none => rw [hc] at hf; cases hf
    | some c =>
      rw [hc] at hf
      cases hf
      exact ix_str value slice pins s σ H _ _ v u Q I rx ry ⟨t, k, c, rfl, rfl, ok.1, hc, q H _ Ext.refl R (.str _ (strOk_one ok.2 (atI_mem hc)))⟩ hp
  · cases hf
theorem sv_idx (ha : PE X a (E_ X W ea)) (hb : PE X b (E_ X W eb)) (hs : PlainIx b) : PE X (.Subscript a b pos) (E_ X W (vBin oIdx ea eb)) :=
  PE.imp (pe_ix os_idx ha hb hs) fun _ _ _ h => vBin_imp h
/-! ### slices -/
abbrev TOv := Env' → Store → Res (Option Int)
def PostO (K : PySem.W.Frag) (cm : Str → Value → Prop) (μ : List Addr) (H : Hp) (r : Res (Option Int)) (Q : Option Int → Hp → Prop) (W : XK) : Prop := match r with
  | .ok x S => ∀ μ' H', Ext μ H μ' H' → RS K cm μ' S H' → Q x H'
  | .exc e S => ∀ μ' H' cls d, Ext μ H μ' H' → RS K cm μ' S H' → RX K cm μ' H' e cls d → W cls d H'
  | .bad => False
def SO (K : PySem.W.Frag) (cm : Str → Value → Prop) (W : WX) (ev : TOv) : TO := fun σ H Q => ∃ μ S ρ, RS K cm μ S H ∧ RE K μ H ρ σ ∧ PostO K cm μ H (ev ρ S) Q (atσ W σ)
abbrev O_ (X : Cx) (W : WX) (ev : TOv) : TO := SO X.K (cmX X) W ev
theorem PostO.ext {K : PySem.W.Frag} {cm : Str → Value → Prop} {μ μ1 : List Addr} {H H1 : Hp} {W : XK} (E : Ext μ H μ1 H1) {r : Res (Option Int)} {Q : Option Int → Hp → Prop} (h : PostO K cm μ H r Q W) : PostO K cm μ1 H1 r Q W := by
  cases r with
  | ok x S => exact fun μ' H' e r => h μ' H' (E.trans e) r
  | exc x S => exact fun μ' H' c d e r q => h μ' H' c d (E.trans e) r q
  | bad => exact h
theorem PostO.step {K : PySem.W.Frag} {cm : Str → Value → Prop} {μ : List Addr} {H : Hp} {W : XK} {α : Type} {r : Res (Option Int)} {f : Option Int → Store → Res α} {P : List Addr → Hp → Res α → Prop} {Q : Option Int → Hp → Prop}
    (h : P μ H (r.bind f)) (hexc : ∀ e S, P μ H (.exc e S) → PostO K cm μ H (.exc e S) Q W) (hbad : P μ H .bad → False)
    (hok : ∀ x S μ' H', Ext μ H μ' H' → RS K cm μ' S H' → P μ H (f x S) → Q x H') : PostO K cm μ H r Q W := by
  cases r with
  | ok x S => exact fun μ' H' e r => hok x S μ' H' e r h
  | exc e S => exact hexc e S h
  | bad => exact hbad h
theorem PO_imp {e : Option Expr} {t t' : TO} (h : PO X e t) (w : ∀ σ H Q, t' σ H Q → t σ H Q) : PO X e t' := ⟨fun pins s σ H Q I q => h.run pins s σ H Q I (w σ H Q q)⟩
def oNone : TOv := fun _ S => .ok none S
def oSome (e : TV) : TOv := fun ρ S => (e ρ S).bind fun x S => match x with
  | .int i => .ok (some i) S
  | _ => .bad
theorem so_none : PO X none (O_ X W oNone) := PO_imp po_none fun σ H Q ⟨μ, S, ρ, R, E, p⟩ => p μ H Ext.refl R
theorem so_some {e : Expr} {ev : TV} (h : PE X e (E_ X W ev)) : PO X (some e) (O_ X W (oSome ev)) := by
  refine PO_imp (po_some h) fun σ H Q h => ?_
  obtain ⟨μ, S, ρ, R, E, p⟩ := h
  refine ⟨μ, S, ρ, R, E, Post.step (P := fun μ H r => PostO X.K (cmX X) μ H r Q (atσ W σ)) p (fun _ _ h => h) (fun h => h) fun x S1 μ1 H1 v E1 R1 rv p => ?_⟩
  cases rv with
  | int i => exact ⟨i, rfl, p μ1 H1 E1 R1⟩
  | _ => exact p.elim
def cutL {α : Type} (xs : List α) (lo hi : Option Int) : List α := (xs.drop (HT.sIx xs.length 0 lo)).take (HT.sIx xs.length xs.length hi - HT.sIx xs.length 0 lo)
theorem RVs.cut {K : PySem.W.Frag} {μ : List Addr} {H : Hp} {xs : List PV} {vs : List V} (r : RVs K μ H xs vs) (lo hi : Option Int) : RVs K μ H (cutL xs lo hi) (cutV vs lo hi) := by
  unfold cutL cutV
  rw [← r.length]
  exact (r.drop _).take _
theorem cutL_length {α : Type} (xs : List α) (lo hi : Option Int) : (cutL xs lo hi).length ≤ xs.length := by
  unfold cutL
  rw [List.length_take, List.length_drop]
  omega
def strCut (z : Str) (lo hi : Option Int) : Str := ⟨(cutL z.cps.toList lo hi).toArray⟩
theorem strCut_slice (z : Str) (lo hi : Option Int) : strCut z lo hi = Txt.slice z lo hi := by
  rw [← C8.cutS_slice]
  unfold strCut cutS cutL
  have e : z.length = z.cps.toList.length := by show z.cps.size = _; simp
  rw [e]
theorem SOk.cut {z : Str} (h : SOk z) (lo hi : Option Int) : SOk (strCut z lo hi) := by
  refine ⟨?_, ?_⟩
  · have := cutL_length z.cps.toList lo hi
    have e : (strCut z lo hi).length = (cutL z.cps.toList lo hi).length := by show (strCut z lo hi).cps.size = _; simp [strCut]
    have e2 : z.length = z.cps.toList.length := by show z.cps.size = _; simp
    rw [e]
    have := h.1
    omega
  · have h2 := h.2
    simp only [PyData.strOk, Array.all_eq_true_iff_forall_mem, decide_eq_true_eq] at h2 ⊢
    intro c hc
    refine h2 c ?_
    have hc' : c ∈ cutL z.cps.toList lo hi := by simpa [strCut] using hc
    unfold cutL at hc'
    simpa using List.mem_of_mem_drop (List.mem_of_mem_take hc')
/-- a[lo:hi]: a new list gets a number -/
def vSlc (a : TV) (lo hi : TOv) : TV := fun ρ S => (a ρ S).bind fun x S => (lo ρ S).bind fun l S => (hi ρ S).bind fun h S => match deref S x with
  | .tup xs => .ok (.tup (cutL xs l h)) S
  | .str z => .ok (.str (strCut z l h)) S
  | .frl xs => .ok (.ref S.length) (S ++ [.lst (cutL xs l h)])
  | _ => .bad
def lSlc (a : TV) (lo hi : TOv) : TL := fun ρ S => (a ρ S).bind fun x S => (lo ρ S).bind fun l S => (hi ρ S).bind fun h S => match deref S x with
  | .frl xs => .ok (cutL xs l h, none) S
  | _ => .bad
def rSlS (K : PySem.W.Frag) (cm : Str → Value → Prop) : V → Option Int → Option Int → Hp → VK → Prop := fun v lo hi H Q => ∃ μ S x, RS K cm μ S H ∧ RV K μ H x v ∧
  ((∃ xs, deref S x = .tup xs ∧ ∀ H' u, Ext μ H μ H' → RS K cm μ S H' → RV K μ H' (.tup (cutL xs lo hi)) u → Q u H') ∨
   (∃ z, deref S x = .str z ∧ ∀ H' u, Ext μ H μ H' → RS K cm μ S H' → RV K μ H' (.str (strCut z lo hi)) u → Q u H') ∨
   (∃ xs, deref S x = .frl xs ∧ ∀ H' p vs, H p = none → H' = upd H p (.lst vs) → RVs K μ H' (cutL xs lo hi) vs → (cutL xs lo hi).length ≤ sizeLine → Q (.ref p) H'))
theorem sl_any : SlR X (rSlS X.K (cmX X)) := by
  intro pins s σ H x v vl vu lo hi sl Q I rx hs pl pu h
  obtain ⟨μ, S, p, R, ra, h⟩ := h
  have ds := deref_seq R ra
  rcases h with ⟨xs, e, q⟩ | ⟨z, e, q⟩ | ⟨xs, e, q⟩
  · obtain ⟨ad, vs, rfl, sq, l, r⟩ := ds.2.1 xs e
    have lc := Nat.le_trans (cutL_length xs lo hi) l
    refine sl_tupA pins s σ H _ v vl vu lo hi sl Q I rx hs pl pu ⟨ad, vs, rfl, sq, fun hw => ?_, fun hw p hp => ?_⟩
    · refine q H _ Ext.refl R (.tup sq lc ?_)
      have : cutL xs lo hi = xs := by
        unfold cutL
        rw [r.length, hw.1, hw.2, Nat.sub_zero, List.drop_zero, ← r.length, List.take_length]
      rw [this]; exact r
    · exact q _ _ (Ext.fresh hp) (R.fresh hp) (.tup (SqT.of upd_same) lc ((r.cut lo hi).mono R (Ext.fresh hp)))
  · obtain ⟨rfl, ok⟩ := ds.2.2.1 z e
    exact C8.sl_txt pins s σ H _ v vl vu lo hi sl Q I rx hs pl pu ⟨z, rfl, ok.1, by rw [← strCut_slice]; exact q H _ Ext.refl R (.str _ (ok.cut lo hi))⟩
  · obtain ⟨ad, vs, rfl, sq, l, r⟩ := ds.1 xs e
    exact sl_list pins s σ H _ v vl vu lo hi sl Q I rx hs pl pu ⟨ad, vs, rfl, sq, fun p hp => q _ p _ hp rfl ((r.cut lo hi).mono R (Ext.fresh hp)) (Nat.le_trans (cutL_length xs lo hi) l)⟩
variable {lo hi : Option Expr} {el eh : TOv} {p2 : Pos}
theorem sv_slc (ha : PE X a (E_ X W ea)) (hl : PO X lo (O_ X W el)) (hh : PO X hi (O_ X W eh)) : PE X (.Subscript a (.Slice lo hi none p2) pos) (E_ X W (vSlc ea el eh)) := by
  refine PE.imp (pe_slice sl_any ha hl hh) fun σ H Q h => ?_
  obtain ⟨μ, S, ρ, R, E, p⟩ := h
  refine ⟨μ, S, ρ, R, E, Post.step (P := fun μ H r => Post X.K (cmX X) μ H r Q (atσ W σ)) p (fun _ _ h => h) (fun h => h) fun x S1 μ1 H1 v E1 R1 rv p => ?_⟩
  refine ⟨μ1, S1, ρ, R1, E.mono R E1, PostO.step (P := fun μ H r => Post X.K (cmX X) μ H r Q (atσ W σ)) (p.ext E1) (fun _ _ h => h) (fun h => h) fun l S2 μ2 H2 E2 R2 p => ?_⟩
  refine ⟨μ2, S2, ρ, R2, (E.mono R E1).mono R1 E2, PostO.step (P := fun μ H r => Post X.K (cmX X) μ H r Q (atσ W σ)) (p.ext E2) (fun _ _ h => h) (fun h => h) fun u S3 μ3 H3 E3 R3 p => ?_⟩
  refine ⟨μ3, S3, x, R3, (rv.mono R1 E2).mono R2 E3, ?_⟩
  split at p
  · rename_i xs e
    exact .inl ⟨xs, e, fun H' u E4 R4 r4 => p μ3 H' u (E3.trans E4) R4 r4⟩
  · rename_i z e
    exact .inr (.inl ⟨z, e, fun H' u E4 R4 r4 => p μ3 H' u (E3.trans E4) R4 r4⟩)
  · rename_i xs e
    refine .inr (.inr ⟨xs, e, fun H' q vs hq he r hl => ?_⟩)
    subst he
    refine p (μ3 ++ [q]) _ _ (E3.trans (Ext.grow hq)) (R3.grow hq ⟨vs, upd_same, hl, r.mono' (R3.fresh hq) ⟨fun i b h => ?_, fun _ _ h _ => h⟩⟩) (.ref ?_)
    · rw [List.getElem?_append_left (List.getElem?_eq_some_iff.mp h).1]; exact h
    · rw [List.getElem?_append_right (by rw [R3.len]; exact Nat.le_refl _), R3.len, Nat.sub_self]; rfl
  · exact p.elim
theorem sl_slc (ha : PE X a (E_ X W ea)) (hl : PO X lo (O_ X W el)) (hh : PO X hi (O_ X W eh)) : PE X (.Subscript a (.Slice lo hi none p2) pos) (L_ X W (lSlc ea el eh)) := by
  refine PE.imp (pe_slice sl_any ha hl hh) fun σ H Q h => ?_
  obtain ⟨μ, S, ρ, R, E, p⟩ := h
  refine ⟨μ, S, ρ, R, E, Post.step (P := fun μ H r => PostL X.K (cmX X) μ H r Q (atσ W σ)) p (fun _ _ h => h) (fun h => h) fun x S1 μ1 H1 v E1 R1 rv p => ?_⟩
  refine ⟨μ1, S1, ρ, R1, E.mono R E1, PostO.step (P := fun μ H r => PostL X.K (cmX X) μ H r Q (atσ W σ)) (p.ext E1) (fun _ _ h => h) (fun h => h) fun l S2 μ2 H2 E2 R2 p => ?_⟩
  refine ⟨μ2, S2, ρ, R2, (E.mono R E1).mono R1 E2, PostO.step (P := fun μ H r => PostL X.K (cmX X) μ H r Q (atσ W σ)) (p.ext E2) (fun _ _ h => h) (fun h => h) fun u S3 μ3 H3 E3 R3 p => ?_⟩
  refine ⟨μ3, S3, x, R3, (rv.mono R1 E2).mono R2 E3, ?_⟩
  split at p
  · rename_i xs e
    refine .inr (.inr ⟨xs, e, fun H' q vs hq he r hl => ?_⟩)
    subst he
    exact p μ3 _ _ (E3.trans (Ext.fresh hq)) (R3.fresh hq) ⟨E3.none' R3 hq, fun hm => R3.trk hm hq, vs, upd_same, hl, r⟩
  · exact p.elim
/-! ### calls of built-in functions -/
/-- by values -/
def rC (K : PySem.W.Frag) (cm : Str → Value → Prop) (f : List PV → Store → Option PV) : List V → Hp → VK → Prop := fun vs H Q => ∃ μ S xs z, RS K cm μ S H ∧ RVs K μ H xs vs ∧ f xs S = some z ∧
  ∀ H' u, Ext μ H μ H' → RS K cm μ S H' → RV K μ H' z u → Q u H'
/-- of a list -/
def rCL (K : PySem.W.Frag) (cm : Str → Value → Prop) (f : List PV → Option PV) : List V → Hp → VK → Prop := fun vs H Q => ∃ μ S xs a ws z, RS K cm μ S H ∧ vs = [.ref a] ∧ H a = some (.lst ws) ∧ xs.length ≤ sizeLine ∧ RVs K μ H xs ws ∧ f xs = some z ∧
  ∀ H' u, Ext μ H μ H' → RS K cm μ S H' → RV K μ H' z u → Q u H'
/-- of a list, to a new list -/
def rCLL (K : PySem.W.Frag) (cm : Str → Value → Prop) (f : List PV → Option (List PV)) : List V → Hp → VK → Prop := fun vs H Q => ∃ μ S xs a ws zs, RS K cm μ S H ∧ vs = [.ref a] ∧ H a = some (.lst ws) ∧ xs.length ≤ sizeLine ∧ RVs K μ H xs ws ∧ f xs = some zs ∧
  ∀ p us, H p = none → RVs K μ H zs us → zs.length ≤ sizeLine → Q (.ref p) (upd H p (.lst us))
/-- by values, to a new list -/
def rCN (K : PySem.W.Frag) (cm : Str → Value → Prop) (f : List PV → Store → Option (List PV)) : List V → Hp → VK → Prop := fun vs H Q => ∃ μ S xs zs, RS K cm μ S H ∧ RVs K μ H xs vs ∧ f xs S = some zs ∧
  ∀ p us, H p = none → RVs K μ H zs us → zs.length ≤ sizeLine → Q (.ref p) (upd H p (.lst us))
def vCall (f : List PV → Store → Option PV) (es : TVs) : TV := fun ρ S => (es ρ S).bind fun xs S => ofO (f xs S) S
def vCallL (f : List PV → Option PV) (l : TL) : TV := fun ρ S => (l ρ S).bind fun l S => ofO (f l.1) S
def lCallL (f : List PV → Option (List PV)) (l : TL) : TL := fun ρ S => (l ρ S).bind fun l S => match f l.1 with
  | some zs => .ok (zs, none) S
  | none => .bad
def lCallN (f : List PV → Store → Option (List PV)) (es : TVs) : TL := fun ρ S => (es ρ S).bind fun xs S => match f xs S with
  | some zs => .ok (zs, none) S
  | none => .bad
theorem vCall_imp {f : List PV → Store → Option PV} {evs : TVs} {σ : L2.St} {H : Hp} {Q : VK} (h : E_ X W (vCall f evs) σ H Q) : A_ X W evs σ H fun vs H1 => rC X.K (cmX X) f vs H1 Q := by
  obtain ⟨μ, S, ρ, R, E, p⟩ := h
  refine ⟨μ, S, ρ, R, E, PostA.step (P := fun μ H r => Post X.K (cmX X) μ H r Q (atσ W σ)) p (fun _ _ h => h) (fun h => h) fun xs S1 μ1 H1 vs E1 R1 rvs p => ?_⟩
  cases hf : f xs S1 with
  | none => rw [hf] at p; exact p.elim
  | some z => rw [hf] at p; exact ⟨μ1, S1, xs, z, R1, rvs, hf, fun H' u E2 R2 r2 => p μ1 H' u (E1.trans E2) R2 r2⟩
/-- the list that stands -/
theorem RL.lst {K : PySem.W.Frag} {cm : Str → Value → Prop} {μ : List Addr} {S : Store} {H0 H : Hp} {l : LL} {a : Addr} (R : RS K cm μ S H) (h : RL K H0 μ S H l a) : ∃ vs, H a = some (.lst vs) ∧ l.1.length ≤ sizeLine ∧ RVs K μ H l.1 vs := by
  unfold RL at h
  split at h
  · exact h.2.2
  · obtain ⟨h1, h2⟩ := h
    exact R.ob _ a _ h1 h2
theorem vCallL_imp {f : List PV → Option PV} {el : TL} {σ : L2.St} {H : Hp} {Q : VK} (h : E_ X W (vCallL f el) σ H Q) : L_ X W el σ H fun v H1 => rCL X.K (cmX X) f [v] H1 Q := by
  obtain ⟨μ, S, ρ, R, E, p⟩ := h
  refine ⟨μ, S, ρ, R, E, PostL.step (P := fun μ H r => Post X.K (cmX X) μ H r Q (atσ W σ)) p (fun _ _ h => h) (fun h => h) fun l S1 μ1 H1 a E1 R1 rl p => ?_⟩
  obtain ⟨ws, ha, hl, r⟩ := rl.lst R1
  cases hf : f l.1 with
  | none => rw [hf] at p; exact p.elim
  | some z => rw [hf] at p; exact ⟨μ1, S1, l.1, a, ws, z, R1, rfl, ha, hl, r, hf, fun H' u E2 R2 r2 => p μ1 H' u (E1.trans E2) R2 r2⟩
theorem fresh_L {K : PySem.W.Frag} {cm : Str → Value → Prop} {μ0 μ : List Addr} {S : Store} {H0 H : Hp} {zs : List PV} {us : List V} {p : Addr} {Q : VK} {W : XK} (E : Ext μ0 H0 μ H) (R : RS K cm μ S H) (h : PostL K cm μ0 H0 (.ok (zs, none) S) Q W)
    (hp : H p = none) (r : RVs K μ H zs us) (hl : zs.length ≤ sizeLine) : Q (.ref p) (upd H p (.lst us)) :=
  h μ _ p (E.trans (Ext.fresh hp)) (R.fresh hp) ⟨E.none' R hp, fun hm => R.trk hm hp, us, upd_same, hl, r.mono R (Ext.fresh hp)⟩
theorem lCallL_imp {f : List PV → Option (List PV)} {el : TL} {σ : L2.St} {H : Hp} {Q : VK} (h : L_ X W (lCallL f el) σ H Q) : L_ X W el σ H fun v H1 => rCLL X.K (cmX X) f [v] H1 Q := by
  obtain ⟨μ, S, ρ, R, E, p⟩ := h
  refine ⟨μ, S, ρ, R, E, PostL.step (P := fun μ H r => PostL X.K (cmX X) μ H r Q (atσ W σ)) p (fun _ _ h => h) (fun h => h) fun l S1 μ1 H1 a E1 R1 rl p => ?_⟩
  obtain ⟨ws, ha, hl, r⟩ := rl.lst R1
  cases hf : f l.1 with
  | none => rw [hf] at p; exact p.elim
  | some zs => rw [hf] at p; exact ⟨μ1, S1, l.1, a, ws, zs, R1, rfl, ha, hl, r, hf, fun q us hq r2 hl2 => fresh_L E1 R1 p hq r2 hl2⟩
theorem lCallN_imp {f : List PV → Store → Option (List PV)} {evs : TVs} {σ : L2.St} {H : Hp} {Q : VK} (h : L_ X W (lCallN f evs) σ H Q) : A_ X W evs σ H fun vs H1 => rCN X.K (cmX X) f vs H1 Q := by
  obtain ⟨μ, S, ρ, R, E, p⟩ := h
  refine ⟨μ, S, ρ, R, E, PostA.step (P := fun μ H r => PostL X.K (cmX X) μ H r Q (atσ W σ)) p (fun _ _ h => h) (fun h => h) fun xs S1 μ1 H1 vs E1 R1 rvs p => ?_⟩
  cases hf : f xs S1 with
  | none => rw [hf] at p; exact p.elim
  | some zs => rw [hf] at p; exact ⟨μ1, S1, xs, zs, R1, rvs, hf, fun q us hq r2 hl2 => fresh_L E1 R1 p hq r2 hl2⟩
variable {x : Str} {p : Pos} {e : Expr} {es : List Expr} {evs : TVs} {ell : TL} {id T : String}
theorem sv_callB {f : List PV → Store → Option PV} (hc : CallR X (.builtin id) (rC X.K (cmX X) f)) (hg : Gl X x) (hm : X.mg x = none) (hv : bootBuiltins x = some (.builtin id)) (ha : PA X (e :: es) (A_ X W evs)) (hn : x ≠ "__name__" := by decide) (hdb : (x == ("__debug__" : Str)) = false := by decide)
    (he : starEach (e :: es) X.env = (false, eval e X.env) :: starEach es X.env := by rfl) (hpl : (backTo pos (starEach es X.env)).any (·.1) = false := by rfl) : PE X (.Call (.Name x p) (e :: es) [] pos) (E_ X W (vCall f evs)) :=
  PE.imp (pe_callB hc hg hm hv ha hn hdb he hpl) fun _ _ _ h => vCall_imp h
theorem sv_callT {f : List PV → Store → Option PV} (hc : CallR X (.type T) (rC X.K (cmX X) f)) (hg : Gl X x) (hm : X.mg x = none) (hv : bootBuiltins x = some (.type T)) (ha : PA X (e :: es) (A_ X W evs)) (hn : x ≠ "__name__" := by decide) (hdb : (x == ("__debug__" : Str)) = false := by decide)
    (he : starEach (e :: es) X.env = (false, eval e X.env) :: starEach es X.env := by rfl) (hpl : (backTo pos (starEach es X.env)).any (·.1) = false := by rfl) : PE X (.Call (.Name x p) (e :: es) [] pos) (E_ X W (vCall f evs)) :=
  PE.imp (pe_callTy hc hg hm hv ha hn hdb he hpl) fun _ _ _ h => vCall_imp h
theorem sv_callBL {f : List PV → Option PV} (hc : CallR X (.builtin id) (rCL X.K (cmX X) f)) (hg : Gl X x) (hm : X.mg x = none) (hv : bootBuiltins x = some (.builtin id)) (ha : PE X e (L_ X W ell)) (hn : x ≠ "__name__" := by decide) (hdb : (x == ("__debug__" : Str)) = false := by decide)
    (he : starEach [e] X.env = (false, eval e X.env) :: starEach [] X.env := by rfl) : PE X (.Call (.Name x p) [e] [] pos) (E_ X W (vCallL f ell)) :=
  PE.imp (pe_callB hc hg hm hv (pa_cons ha pa_nil he) hn hdb he (by rfl)) fun _ _ _ h => vCallL_imp h
theorem sv_callTL {f : List PV → Option PV} (hc : CallR X (.type T) (rCL X.K (cmX X) f)) (hg : Gl X x) (hm : X.mg x = none) (hv : bootBuiltins x = some (.type T)) (ha : PE X e (L_ X W ell)) (hn : x ≠ "__name__" := by decide) (hdb : (x == ("__debug__" : Str)) = false := by decide)
    (he : starEach [e] X.env = (false, eval e X.env) :: starEach [] X.env := by rfl) : PE X (.Call (.Name x p) [e] [] pos) (E_ X W (vCallL f ell)) :=
  PE.imp (pe_callTy hc hg hm hv (pa_cons ha pa_nil he) hn hdb he (by rfl)) fun _ _ _ h => vCallL_imp h
theorem sl_callBL {f : List PV → Option (List PV)} (hc : CallR X (.builtin id) (rCLL X.K (cmX X) f)) (hg : Gl X x) (hm : X.mg x = none) (hv : bootBuiltins x = some (.builtin id)) (ha : PE X e (L_ X W ell)) (hn : x ≠ "__name__" := by decide) (hdb : (x == ("__debug__" : Str)) = false := by decide)
    (he : starEach [e] X.env = (false, eval e X.env) :: starEach [] X.env := by rfl) : PE X (.Call (.Name x p) [e] [] pos) (L_ X W (lCallL f ell)) :=
  PE.imp (pe_callB hc hg hm hv (pa_cons ha pa_nil he) hn hdb he (by rfl)) fun _ _ _ h => lCallL_imp h
theorem sl_callTL {f : List PV → Option (List PV)} (hc : CallR X (.type T) (rCLL X.K (cmX X) f)) (hg : Gl X x) (hm : X.mg x = none) (hv : bootBuiltins x = some (.type T)) (ha : PE X e (L_ X W ell)) (hn : x ≠ "__name__" := by decide) (hdb : (x == ("__debug__" : Str)) = false := by decide)
    (he : starEach [e] X.env = (false, eval e X.env) :: starEach [] X.env := by rfl) : PE X (.Call (.Name x p) [e] [] pos) (L_ X W (lCallL f ell)) :=
  PE.imp (pe_callTy hc hg hm hv (pa_cons ha pa_nil he) hn hdb he (by rfl)) fun _ _ _ h => lCallL_imp h
theorem sl_callBN {f : List PV → Store → Option (List PV)} (hc : CallR X (.builtin id) (rCN X.K (cmX X) f)) (hg : Gl X x) (hm : X.mg x = none) (hv : bootBuiltins x = some (.builtin id)) (ha : PA X (e :: es) (A_ X W evs)) (hn : x ≠ "__name__" := by decide) (hdb : (x == ("__debug__" : Str)) = false := by decide)
    (he : starEach (e :: es) X.env = (false, eval e X.env) :: starEach es X.env := by rfl) (hpl : (backTo pos (starEach es X.env)).any (·.1) = false := by rfl) : PE X (.Call (.Name x p) (e :: es) [] pos) (L_ X W (lCallN f evs)) :=
  PE.imp (pe_callB hc hg hm hv ha hn hdb he hpl) fun _ _ _ h => lCallN_imp h
theorem sl_callTN {f : List PV → Store → Option (List PV)} (hc : CallR X (.type T) (rCN X.K (cmX X) f)) (hg : Gl X x) (hm : X.mg x = none) (hv : bootBuiltins x = some (.type T)) (ha : PA X (e :: es) (A_ X W evs)) (hn : x ≠ "__name__" := by decide) (hdb : (x == ("__debug__" : Str)) = false := by decide)
    (he : starEach (e :: es) X.env = (false, eval e X.env) :: starEach es X.env := by rfl) (hpl : (backTo pos (starEach es X.env)).any (·.1) = false := by rfl) : PE X (.Call (.Name x p) (e :: es) [] pos) (L_ X W (lCallN f evs)) :=
  PE.imp (pe_callTy hc hg hm hv ha hn hdb he hpl) fun _ _ _ h => lCallN_imp h
/-! ### which function -/
def fLen (xs : List PV) (S : Store) : Option PV := match xs with
  | [x] => match deref S x with
    | .frl ys => some (.int ys.length)
    | .tup ys => some (.int ys.length)
    | .str z => some (.int z.length)
    | _ => none
  | _ => none
theorem RVs.one {K : PySem.W.Frag} {μ : List Addr} {H : Hp} {x : PV} {vs : List V} (r : RVs K μ H [x] vs) : ∃ v, vs = [v] ∧ RV K μ H x v := by
  cases r with | cons h t => cases t; exact ⟨_, rfl, h⟩
theorem RVs.two {K : PySem.W.Frag} {μ : List Addr} {H : Hp} {x y : PV} {vs : List V} (r : RVs K μ H [x, y] vs) : ∃ v w, vs = [v, w] ∧ RV K μ H x v ∧ RV K μ H y w := by
  cases r with | cons h t => cases t with | cons h2 t => cases t; exact ⟨_, _, rfl, h, h2⟩
theorem cs_len : CallR X (.builtin "len") (rC X.K (cmX X) fLen) := by
  intro pins s σ H vs us Q I rv h
  obtain ⟨μ, S, xs, z, R, ra, hf, q⟩ := h
  unfold fLen at hf
  split at hf
  · obtain ⟨v, rfl, r1⟩ := ra.one
    have ds := deref_seq R r1
    split at hf
    · rename_i ys e
      obtain ⟨a, ws, rfl, sq, l, r⟩ := ds.1 ys e
      cases hf
      exact call_len pins s σ H _ us Q I rv ⟨_, ws.length, rfl, .inl ⟨ws, sq, rfl⟩, by rw [← r.length]; exact q H _ Ext.refl R (.int _)⟩
    · rename_i ys e
      obtain ⟨a, ws, rfl, sq, l, r⟩ := ds.2.1 ys e
      cases hf
      exact call_len pins s σ H _ us Q I rv ⟨_, ws.length, rfl, .inr ⟨ws, sq, rfl⟩, by rw [← r.length]; exact q H _ Ext.refl R (.int _)⟩
    · rename_i t e
      obtain ⟨rfl, ok⟩ := ds.2.2.1 t e
      cases hf
      exact call_len pins s σ H _ us Q I rv ⟨_, t.length, rfl, ⟨ok.1, rfl⟩, q H _ Ext.refl R (.int _)⟩
    · cases hf
  · cases hf
def fInt (xs : List PV) (_ : Store) : Option PV := match xs with
  | [.int i] => some (.int i)
  | [.bl b] => some (.int (if b then 1 else 0))
  | _ => none
theorem cs_int : CallR X (.type "int") (rC X.K (cmX X) fInt) := by
  intro pins s σ H vs us Q I rv h
  obtain ⟨μ, S, xs, z, R, ra, hf, q⟩ := h
  unfold fInt at hf
  split at hf
  · obtain ⟨v, rfl, r1⟩ := ra.one
    cases r1; cases hf
    exact call_int1 pins s σ H _ us Q I rv (.inl ⟨_, rfl, q H _ Ext.refl R (.int _)⟩)
  · obtain ⟨v, rfl, r1⟩ := ra.one
    cases r1; cases hf
    exact call_int1 pins s σ H _ us Q I rv (.inr ⟨_, rfl, q H _ Ext.refl R (.int _)⟩)
  · cases hf
def fMax (xs : List PV) (_ : Store) : Option PV := match xs with
  | [.int i, .int j] => some (.int (if j > i then j else i))
  | _ => none
def fMin (xs : List PV) (_ : Store) : Option PV := match xs with
  | [.int i, .int j] => some (.int (if j < i then j else i))
  | _ => none
theorem cs_max (hc : X.calm = true) : CallR X (.builtin "max") (rC X.K (cmX X) fMax) := by
  intro pins s σ H vs us Q I rv h
  obtain ⟨μ, S, xs, z, R, ra, hf, q⟩ := h
  unfold fMax at hf
  split at hf
  · obtain ⟨v, w, rfl, r1, r2⟩ := ra.two
    cases r1; cases r2; cases hf
    exact call_max2 hc pins s σ H _ us Q I rv ⟨_, _, rfl, q H _ Ext.refl R (.int _)⟩
  · cases hf
theorem cs_min (hc : X.calm = true) : CallR X (.builtin "min") (rC X.K (cmX X) fMin) := by
  intro pins s σ H vs us Q I rv h
  obtain ⟨μ, S, xs, z, R, ra, hf, q⟩ := h
  unfold fMin at hf
  split at hf
  · obtain ⟨v, w, rfl, r1, r2⟩ := ra.two
    cases r1; cases r2; cases hf
    exact call_min2 hc pins s σ H _ us Q I rv ⟨_, _, rfl, q H _ Ext.refl R (.int _)⟩
  · cases hf
/-- tuple(x) of a list or a tuple -/
def fTup (xs : List PV) (S : Store) : Option PV := match xs with
  | [x] => match deref S x with
    | .frl ys => some (.tup ys)
    | .tup ys => some (.tup ys)
    | _ => none
  | _ => none
theorem cs_tup : CallR X (.type "tuple") (rC X.K (cmX X) fTup) := by
  intro pins s σ H vs us Q I rv h
  obtain ⟨μ, S, xs, z, R, ra, hf, q⟩ := h
  unfold fTup at hf
  split at hf
  · obtain ⟨v, rfl, r1⟩ := ra.one
    have ds := deref_seq R r1
    split at hf
    · rename_i ys e
      obtain ⟨a, ws, rfl, sq, l, r⟩ := ds.1 ys e
      cases hf
      exact call_tuple_of pins s σ H _ us Q I rv ⟨a, ws, rfl, .inl ⟨sq, fun p hp => q _ _ (Ext.fresh hp) (R.fresh hp) (.tup (SqT.of upd_same) l (r.mono R (Ext.fresh hp)))⟩⟩
    · rename_i ys e
      obtain ⟨a, ws, rfl, sq, l, r⟩ := ds.2.1 ys e
      cases hf
      exact call_tuple_of pins s σ H _ us Q I rv ⟨a, ws, rfl, .inr ⟨sq, q _ _ Ext.refl R (.tup sq l r)⟩⟩
    · cases hf
  · cases hf
theorem cs_tupL : CallR X (.type "tuple") (rCL X.K (cmX X) fun xs => some (.tup xs)) := by
  intro pins s σ H vs us Q I rv h
  obtain ⟨μ, S, xs, a, ws, z, R, rfl, ha, hl, r, hf, q⟩ := h
  cases hf
  exact call_tuple_of pins s σ H _ us Q I rv ⟨a, ws, rfl, .inl ⟨SqL.of ha, fun p hp => q _ _ (Ext.fresh hp) (R.fresh hp) (.tup (SqT.of upd_same) hl (r.mono R (Ext.fresh hp)))⟩⟩
theorem cs_lenL : CallR X (.builtin "len") (rCL X.K (cmX X) fun xs => some (.int xs.length)) := by
  intro pins s σ H vs us Q I rv h
  obtain ⟨μ, S, xs, a, ws, z, R, rfl, ha, hl, r, hf, q⟩ := h
  cases hf
  exact call_len pins s σ H _ us Q I rv ⟨_, ws.length, rfl, .inl ⟨ws, SqL.of ha, rfl⟩, by rw [← r.length]; exact q H _ Ext.refl R (.int _)⟩
/-- list(x) of a list or a tuple: a new list -/
def fList (xs : List PV) (S : Store) : Option (List PV) := match xs with
  | [x] => match deref S x with
    | .frl ys => some ys
    | .tup ys => some ys
    | _ => none
  | _ => none
theorem cs_list : CallR X (.type "list") (rCN X.K (cmX X) fList) := by
  intro pins s σ H vs us Q I rv h
  obtain ⟨μ, S, xs, z, R, ra, hf, q⟩ := h
  unfold fList at hf
  split at hf
  · obtain ⟨v, rfl, r1⟩ := ra.one
    have ds := deref_seq R r1
    split at hf
    · rename_i ys e
      obtain ⟨a, ws, rfl, sq, l, r⟩ := ds.1 ys e
      cases hf
      exact call_list_of pins s σ H _ us Q I rv ⟨a, ws, rfl, .inl sq, fun p hp => q p ws hp r l⟩
    · rename_i ys e
      obtain ⟨a, ws, rfl, sq, l, r⟩ := ds.2.1 ys e
      cases hf
      exact call_list_of pins s σ H _ us Q I rv ⟨a, ws, rfl, .inr sq, fun p hp => q p ws hp r l⟩
    · cases hf
  · cases hf
def asBl : List PV → Option (List Bool)
  | [] => some []
  | .bl b :: r => (asBl r).map (b :: ·)
  | _ :: _ => none
theorem asBl_ok {K : PySem.W.Frag} {μ : List Addr} {H : Hp} : ∀ {xs : List PV} {vs : List V} {bs : List Bool}, RVs K μ H xs vs → asBl xs = some bs → vs = bs.map V.bl
  | [], _, bs, .nil, h => by cases h; rfl
  | x :: xs, _, bs, .cons r t, h => by
    cases r with
    | bl b =>
      simp only [asBl, Option.map_eq_some_iff] at h
      obtain ⟨cs, h1, rfl⟩ := h
      rw [asBl_ok t h1]; rfl
    | _ => simp [asBl] at h
def fAll (xs : List PV) : Option PV := (asBl xs).map fun bs => .bl (bs.all _root_.id)
def fAny (xs : List PV) : Option PV := (asBl xs).map fun bs => .bl (bs.any _root_.id)
theorem cs_all (hc : X.calm = true) : CallR X (.builtin "all") (rCL X.K (cmX X) fAll) := by
  intro pins s σ H vs us Q I rv h
  obtain ⟨μ, S, xs, a, ws, z, R, rfl, ha, hl, r, hf, q⟩ := h
  simp only [fAll, Option.map_eq_some_iff] at hf
  obtain ⟨bs, h1, rfl⟩ := hf
  have e := asBl_ok r h1
  subst e
  exact cr_all hc pins s σ H _ us Q I rv ⟨a, bs, rfl, SqL.of ha, q H _ Ext.refl R (.bl _)⟩
theorem cs_any (hc : X.calm = true) : CallR X (.builtin "any") (rCL X.K (cmX X) fAny) := by
  intro pins s σ H vs us Q I rv h
  obtain ⟨μ, S, xs, a, ws, z, R, rfl, ha, hl, r, hf, q⟩ := h
  simp only [fAny, Option.map_eq_some_iff] at hf
  obtain ⟨bs, h1, rfl⟩ := hf
  have e := asBl_ok r h1
  subst e
  exact cr_any hc pins s σ H _ us Q I rv ⟨a, bs, rfl, SqL.of ha, q H _ Ext.refl R (.bl _)⟩
/-! ### isinstance of a built-in type -/
def tyN (S : Store) : PV → Option String
  | .non => some "NoneType"
  | .bl _ => some "bool"
  | .int _ => some "int"
  | .str _ => some "str"
  | .tup _ => some "tuple"
  | .frl _ => some "list"
  | .ref i => match S[i]? with
    | some (.lst _) => some "list"
    | some (.dic _) => some "dict"
    | _ => none
def isI (a b : String) : Bool := a == b || (a == "bool" && b == "int")
def okT : List String := ["str", "int", "bool", "tuple", "list", "dict"]
theorem kit_isI : ∀ a ∈ ["NoneType", "bool", "int", "str", "tuple", "list", "dict"], ∀ b ∈ okT, kitB a b = some (isI a b) := by decide +kernel
theorem tyN_mem {S : Store} {x : PV} {a : String} (h : tyN S x = some a) : a ∈ ["NoneType", "bool", "int", "str", "tuple", "list", "dict"] := by
  unfold tyN at h
  split at h
  all_goals first | (cases h; decide) | (split at h <;> first | (cases h; decide) | cases h)
theorem tyN_ok {K : PySem.W.Frag} {cm : Str → Value → Prop} {μ : List Addr} {S : Store} {H : Hp} (R : RS K cm μ S H) {x : PV} {v : V} (r : RV K μ H x v) {a : String} (h : tyN S x = some a) : TyX K H v (.type a) := by
  cases r with
  | non => cases h; exact .base .non
  | bl b => cases h; exact .base (.bl b)
  | int i => cases h; exact .base (.int i)
  | str z _ => cases h; exact .base (.str z)
  | tup s l r =>
    cases h
    rcases s with (s | ⟨o, s⟩) | ⟨o, its, n, e, c, _⟩
    · exact .base (.tup s)
    · exact .fTuple s
    · exact .kTuple e c
  | frl s l r =>
    cases h
    rcases s with ⟨o, s⟩ | ⟨o, its, n, e, c, _⟩
    · exact .base (.frz s)
    · exact .kList e c
  | @ref i ad hi =>
    simp only [tyN] at h
    split at h
    · rename_i xs e
      obtain ⟨ws, e1, _⟩ := R.ob i ad _ hi e
      cases h
      exact .base (.lst e1)
    · rename_i xs e
      obtain ⟨ws, e1, _⟩ := R.ob i ad _ hi e
      cases h
      exact .base (.dK e1)
    · cases h
def vIsi (T : String) (a : TV) : TV := fun ρ S => (a ρ S).bind fun x S => ofO ((tyN S x).map fun t => .bl (isI t T)) S
theorem sv_isi {T : String} {y : Str} {py : Pos} (ha : PE X a (E_ X W ea)) (hg : Gl X "isinstance") (hm : X.mg "isinstance" = none) (hv : bootBuiltins "isinstance" = some (.builtin "isinstance")) (hg2 : Gl X y) (hm2 : X.mg y = none) (hv2 : bootBuiltins y = some (.type T)) (hT : T ∈ okT := by decide) (hn2 : y ≠ "__name__" := by decide) (hd2 : (y == ("__debug__" : Str)) = false := by decide)
    (he : starEach [a, .Name y py] X.env = (false, eval a X.env) :: starEach [.Name y py] X.env := by rfl) : PE X (.Call (.Name "isinstance" p) [a, .Name y py] [] pos) (E_ X W (vIsi T ea)) := by
  refine PE.imp (pe_callB call_isi hg hm hv (pa_cons ha (pa_cons (pe_bltn (v := .ty T) hg2 hm2 hv2 rfl hn2 hd2) pa_nil) he) (by decide) (by decide) he) fun σ H Q h => ?_
  obtain ⟨μ, S, ρ, R, E, q⟩ := h
  refine ⟨μ, S, ρ, R, E, Post.step (P := fun μ H r => Post X.K (cmX X) μ H r Q (atσ W σ)) q (fun _ _ h => h) (fun h => h) fun x S1 μ1 H1 v E1 R1 rv q => ?_⟩
  cases ht : tyN S1 x with
  | none => rw [ht] at q; exact q.elim
  | some t =>
    rw [ht] at q
    exact ⟨v, .ty T, .type t, .type T, isI t T, rfl, .ty T, tyN_ok R1 rv ht, kit_ty (kit_isI t (tyN_mem ht) T hT), q μ1 H1 _ E1 R1 (.bl _)⟩
end
end Ev

/-! Fw5: statements, loops, comprehensions. -/
namespace Ev
open PySem PySem.Spec PyProof.Rows L2
/-! ### statements -/
def Res.sr {α : Type} (r : Res α) (ρ : Env') (f : α → Store → SR) : SR := match r with
  | .ok a S => f a S
  | .exc e S => .exc e ρ S
  | .bad => .bad
@[simp] theorem sr_ok {α : Type} (a : α) (S : Store) (ρ : Env') (f : α → Store → SR) : (Res.ok a S).sr ρ f = f a S := rfl
@[simp] theorem sr_exc {α : Type} (e : PX) (S : Store) (ρ : Env') (f : α → Store → SR) : (Res.exc e S : Res α).sr ρ f = .exc e ρ S := rfl
@[simp] theorem sr_bad {α : Type} (ρ : Env') (f : α → Store → SR) : (Res.bad : Res α).sr ρ f = .bad := rfl
def sNil : TSt := fun ρ S => .nx ρ S
def sPass : TSt := fun ρ S => .nx ρ S
def sBrk : TSt := fun ρ S => .brk ρ S
def sCnt : TSt := fun ρ S => .cnt ρ S
def SR.seq (r : SR) (b : TSt) : SR := match r with
  | .nx ρ S => b ρ S
  | r => r
def sSeq (a b : TSt) : TSt := fun ρ S => (a ρ S).seq b
def sExpr (e : TV) : TSt := fun ρ S => (e ρ S).sr ρ fun _ S => .nx ρ S
def sSet (i : Nat) (e : TV) : TSt := fun ρ S => (e ρ S).sr ρ fun x S => .nx (ρ.set i (some x)) S
def sRet (e : TV) : TSt := fun ρ S => (e ρ S).sr ρ fun x S => .ret x S
def sRetN : TSt := fun _ S => .ret .non S
def sIf (c : TB) (a b : TSt) : TSt := fun ρ S => (c ρ S).sr ρ fun x S => if x = true then a ρ S else b ρ S
/-! ### targets -/
abbrev Tgt := PV → Env' → Option Env'
def tgN (i : Nat) : Tgt := fun x ρ => some (ρ.set i (some x))
def tgNil : List PV → Env' → Option Env' := fun xs ρ => match xs with
  | [] => some ρ
  | _ => none
def tgCons (t : Tgt) (r : List PV → Env' → Option Env') : List PV → Env' → Option Env' := fun xs ρ => match xs with
  | x :: ys => (t x ρ).bind (r ys)
  | [] => none
def tgT (r : List PV → Env' → Option Env') : Tgt := fun x ρ => match x with
  | .tup xs => r xs ρ
  | _ => none
/-- storing v leads from slots to slots; only those of vs change -/
def G_ (X : Cx) (vs : List Nat) (tg : Tgt) : TG := fun v σ H Q => ∃ μ S ρ x ρ', RS X.K (cmX X) μ S H ∧ RE X.K μ H ρ σ ∧ RV X.K μ H x v ∧ tg x ρ = some ρ' ∧
  ∀ σ', RE X.K μ H ρ' σ' → (∀ i, i ∉ vs → σ'[i]? = σ[i]?) → σ'.length = σ.length → Q σ' H
def Gs_ (X : Cx) (vs : List Nat) (n : Nat) (tg : List PV → Env' → Option Env') : TGs := fun ws σ H Q => ∃ μ S ρ xs ρ', RS X.K (cmX X) μ S H ∧ RE X.K μ H ρ σ ∧ RVs X.K μ H xs ws ∧ ws.length = n ∧ tg xs ρ = some ρ' ∧
  ∀ σ', RE X.K μ H ρ' σ' → (∀ i, i ∉ vs → σ'[i]? = σ[i]?) → σ'.length = σ.length → Q σ' H
theorem RE.set {K : PySem.W.Frag} {μ : List Addr} {H : Hp} {ρ : Env'} {σ : L2.St} {x : PV} {v : V} (E : RE K μ H ρ σ) (r : RV K μ H x v) (i : Nat) : RE K μ H (ρ.set i (some x)) (σ.set i (some v)) := by
  refine ⟨by simp [E.1], fun j y e => ?_⟩
  by_cases h : i = j
  · subst h
    have hl : i < ρ.length := by
      have := (List.getElem?_eq_some_iff.mp e).1
      simpa using this
    rw [List.getElem?_set_self hl] at e
    cases e
    exact ⟨v, List.getElem?_set_self (by rw [← E.1]; exact hl), r⟩
  · rw [List.getElem?_set_ne h] at e
    obtain ⟨w, e1, r1⟩ := E.2 j y e
    exact ⟨w, by rw [List.getElem?_set_ne h]; exact e1, r1⟩
theorem PG_imp {X : Cx} {e : Expr} {t t' : TG} (h : PG X e t) (w : ∀ v σ H Q, t' v σ H Q → t v σ H Q) : PG X e t' := ⟨fun pins s σ H v u Q I r q => h.run pins s σ H v u Q I r (w v σ H Q q)⟩
theorem PGs_imp {X : Cx} {e : List Expr} {t t' : TGs} (h : PGs X e t) (w : ∀ v σ H Q, t' v σ H Q → t v σ H Q) : PGs X e t' := ⟨fun pins s σ H v u Q I r q => h.run pins s σ H v u Q I r (w v σ H Q q)⟩
section
variable {X : Cx} {W : WX} {e : Expr} {st : Stmt} {rest : List Stmt} {ev : TV} {a b : TSt} {pos pos' : Pos}
theorem sg_name {i : Nat} {x : Str} (hN : X.N.Nodup) (hi : X.N[i]? = some x) (hx : Loc X.env.scope x) (hf : X.fn x = true ∨ X.env.scope.names.lookup x = some .local := by first | exact .inl rfl | exact .inr rfl | assumption) : PG X (.Name x pos) (G_ X [i] (tgN i)) := by
  refine PG_imp (pg_name hN hi hx hf) fun v σ H Q h => ?_
  obtain ⟨μ, S, ρ, x, ρ', R, E, r, e, q⟩ := h
  cases e
  exact q _ (E.set r i) (fun j hj => by rw [List.getElem?_set_ne]; rintro rfl; exact hj (by simp)) (by simp)
theorem sg_nil : PGs X [] (Gs_ X [] 0 tgNil) := by
  refine PGs_imp pgs_nil fun v σ H Q h => ?_
  obtain ⟨μ, S, ρ, xs, ρ', R, E, r, hn, e, q⟩ := h
  have := List.length_eq_zero_iff.mp hn
  subst this
  cases r; cases e
  exact ⟨rfl, q σ E (fun _ _ => rfl) rfl⟩
theorem sg_cons {e : Expr} {es : List Expr} {vs ws : List Nat} {n : Nat} {t : Tgt} {r : List PV → Env' → Option Env'} (h1 : PG X e (G_ X vs t)) (h2 : PGs X es (Gs_ X ws n r))
    (hs : (assignEach (e :: es) X.env).map (·.2) = assign e X.env :: (assignEach es X.env).map (·.2) := by rfl) : PGs X (e :: es) (Gs_ X (vs ++ ws) (n + 1) (tgCons t r)) := by
  refine PGs_imp (pgs_cons h1 h2 hs) fun us σ H Q h => ?_
  obtain ⟨μ, S, ρ, xs, ρ', R, E, rv, hn, he, q⟩ := h
  cases rv with
  | nil => cases hn
  | @cons x v xs us h t' =>
    simp only [tgCons] at he
    cases h1 : t x ρ with
    | none => rw [h1] at he; cases he
    | some ρ1 =>
      rw [h1] at he
      refine ⟨v, us, rfl, μ, S, ρ, x, ρ1, R, E, h, h1, fun σ1 E1 k1 l1 => ?_⟩
      refine ⟨μ, S, ρ1, xs, ρ', R, E1, t', by simpa using hn, he, fun σ2 E2 k2 l2 => q σ2 E2 (fun i hi => ?_) (l2.trans l1)⟩
      rw [k2 i fun z => hi (List.mem_append_right _ z), k1 i fun z => hi (List.mem_append_left _ z)]
theorem sg_tup {es : List Expr} {k : Nat} {vs : List Nat} {n : Nat} {r : List PV → Env' → Option Env'} (hc : X.calm = true) (h : PGs X es (Gs_ X vs n r))
    (hn : (assignEach es X.env).length = n := by rfl) (hst : (assignEach es X.env).findIdx? (·.1) = none := by rfl) (hlen : ∀ xs ρ ρ', r xs ρ = some ρ' → xs.length = n) : PG X (.Tuple es k pos) (G_ X vs (tgT r)) := by
  refine PG_imp (pg_tup hc h hn hst) fun v σ H Q h => ?_
  obtain ⟨μ, S, ρ, x, ρ', R, E, rv, he, q⟩ := h
  cases rv with
  | @tup a xs ws s l r' =>
    have hl := hlen _ _ _ he
    have hw : ws.length = n := by rw [← r'.length]; exact hl
    exact ⟨a, ws, rfl, s, hw, μ, S, ρ, xs, ρ', R, E, r', hw, he, q⟩
  | _ => cases he
/-! ### plain statements -/
theorem ss_nil : PSs X [] (S_ X W sNil) := PSs.imp pss_nil fun D σ H ⟨μ, S, ρ, R, E, p⟩ => p μ H σ Ext.refl R E
theorem ss_pass : PS X (.Pass pos) (S_ X W sPass) := PS.imp ps_pass fun D σ H ⟨μ, S, ρ, R, E, p⟩ => p μ H σ Ext.refl R E
theorem ss_brk : PS X (.Break pos) (S_ X W sBrk) := PS.imp ps_break fun D σ H ⟨μ, S, ρ, R, E, p⟩ => p μ H σ Ext.refl R E
theorem ss_cnt : PS X (.Continue pos) (S_ X W sCnt) := PS.imp ps_continue fun D σ H ⟨μ, S, ρ, R, E, p⟩ => p μ H σ Ext.refl R E
theorem ss_seq (h1 : PS X st (S_ X W a)) (h2 : PSs X rest (S_ X W b)) : PSs X (st :: rest) (S_ X W (sSeq a b)) := by
  refine PSs.imp (pss_cons h1 h2) fun D σ H h => ?_
  obtain ⟨μ, S, ρ, R, E, p⟩ := h
  refine ⟨μ, S, ρ, R, E, ?_⟩
  unfold sSeq SR.seq at p
  cases he : a ρ S with
  | nx ρ' S' => rw [he] at p; exact fun μ' H' σ' E1 R1 r1 => ⟨μ', S', ρ', R1, r1, p.ext E1⟩
  | ret v S' => rw [he] at p; exact p
  | brk ρ' S' => rw [he] at p; exact p
  | cnt ρ' S' => rw [he] at p; exact p
  | exc e ρ' S' => rw [he] at p; exact p
  | bad => rw [he] at p; exact p
/-- a value, then what follows -/
theorem sr_step {r : Res PV} {f : PV → Store → SR} {μ : List Addr} {H : Hp} {ρ : Env'} {σ : L2.St} {D : Ends} {Q : VK} (E : RE X.K μ H ρ σ) {S0 : Store} (R0 : RS X.K (cmX X) μ S0 H) (h : PostS X.K (cmX X) μ H (r.sr ρ f) D W)
    (hok : ∀ x S μ' H' v, Ext μ H μ' H' → RS X.K (cmX X) μ' S H' → RV X.K μ' H' x v → PostS X.K (cmX X) μ H (f x S) D W → Q v H') : Post X.K (cmX X) μ H r Q (atσ W σ) := by
  cases r with
  | ok x S => exact fun μ' H' v e r q => hok x S μ' H' v e r q h
  | exc e S => exact fun μ' H' c d e r q => h μ' H' σ c d e r (E.mono R0 e) q
  | bad => exact h
theorem sr_stepB {r : Res Bool} {f : Bool → Store → SR} {μ : List Addr} {H : Hp} {ρ : Env'} {σ : L2.St} {D : Ends} {Q : Bool → Hp → Prop} (E : RE X.K μ H ρ σ) {S0 : Store} (R0 : RS X.K (cmX X) μ S0 H) (h : PostS X.K (cmX X) μ H (r.sr ρ f) D W)
    (hok : ∀ x S μ' H', Ext μ H μ' H' → RS X.K (cmX X) μ' S H' → PostS X.K (cmX X) μ H (f x S) D W → Q x H') : PostB X.K (cmX X) μ H r Q (atσ W σ) := by
  cases r with
  | ok x S => exact fun μ' H' e r => hok x S μ' H' e r h
  | exc e S => exact fun μ' H' c d e r q => h μ' H' σ c d e r (E.mono R0 e) q
  | bad => exact h
theorem ss_expr (he : PE X e (E_ X W ev)) (hs : swapsWith e none pos.line X.env = pure false := by rfl) : PS X (.Expr e pos) (S_ X W (sExpr ev)) := by
  refine PS.imp (ps_expr he hs) fun D σ H h => ?_
  obtain ⟨μ, S, ρ, R, E, p⟩ := h
  exact ⟨μ, S, ρ, R, E, sr_step E R p fun x S1 μ1 H1 v E1 R1 rv p => p μ1 H1 σ E1 R1 (E.mono R E1)⟩
theorem ss_set {i : Nat} {x : Str} {pos' : Pos} (hN : X.N.Nodup) (hi : X.N[i]? = some x) (hx : Loc X.env.scope x) (he : PE X e (E_ X W ev)) (hs : swapsWith e (some (.Name x pos')) pos.line X.env = pure false := by rfl) (hf : X.fn x = true ∨ X.env.scope.names.lookup x = some .local := by first | exact .inl rfl | exact .inr rfl | assumption) :
    PS X (.Assign [.Name x pos'] e pos) (S_ X W (sSet i ev)) := by
  refine PS.imp (ps_set hN hi hx he hs hf) fun D σ H h => ?_
  obtain ⟨μ, S, ρ, R, E, p⟩ := h
  exact ⟨μ, S, ρ, R, E, sr_step E R p fun x S1 μ1 H1 v E1 R1 rv p => p μ1 H1 _ E1 R1 ((E.mono R E1).set rv i)⟩
theorem ss_ret (he : PE X e (E_ X W ev)) : PS X (.Return (some e) pos) (S_ X W (sRet ev)) := by
  refine PS.imp (ps_ret he) fun D σ H h => ?_
  obtain ⟨μ, S, ρ, R, E, p⟩ := h
  exact ⟨μ, S, ρ, R, E, sr_step E R p fun x S1 μ1 H1 v E1 R1 rv p => p μ1 H1 _ E1 R1 rv⟩
theorem ss_retN : PS X (.Return none pos) (S_ X W sRetN) := PS.imp ps_retN fun D σ H ⟨μ, S, ρ, R, E, p⟩ => p μ H _ Ext.refl R .non
theorem ss_if {c : Expr} {sa sb : List Stmt} {tc : TB} (hc : PT X c (T_ X W tc)) (ha : PSs X sa (S_ X W a)) (hb : PSs X sb (S_ X W b)) : PS X (.If c sa sb pos) (S_ X W (sIf tc a b)) := by
  refine PS.imp (ps_if hc ha hb) fun D σ H h => ?_
  obtain ⟨μ, S, ρ, R, E, p⟩ := h
  refine ⟨μ, S, ρ, R, E, sr_stepB E R p fun x S1 μ1 H1 E1 R1 p => ?_⟩
  cases x with
  | true => rw [if_pos rfl] at p ⊢; exact ⟨μ1, S1, ρ, R1, E.mono R E1, p.ext E1⟩
  | false => rw [if_neg (by decide)] at p ⊢; exact ⟨μ1, S1, ρ, R1, E.mono R E1, p.ext E1⟩
/-- a, b = e: a tuple taken apart -/
def sUnp (tg : Tgt) (e : TV) : TSt := fun ρ S => (e ρ S).sr ρ fun x S => match tg x ρ with
  | some ρ' => .nx ρ' S
  | none => .bad
theorem ss_unp {tg e : Expr} {vs : List Nat} {t : Tgt} (he : PE X e (E_ X W ev)) (hg : PG X tg (G_ X vs t)) (hs : swapsWithSole [tg] e pos.line X.env = pure false := by rfl) (hw : swappedStores [tg] e X.env = pure none := by rfl)
    (h1 : (assignEach [tg] X.env).map (·.2) = [assign tg X.env] := by rfl) : PS X (.Assign [tg] e pos) (S_ X W (sUnp t ev)) := by
  refine PS.imp (ps_asg he hg hs hw h1) fun D σ H h => ?_
  obtain ⟨μ, S, ρ, R, E, p⟩ := h
  refine ⟨μ, S, ρ, R, E, sr_step E R p fun x S1 μ1 H1 v E1 R1 rv p => ?_⟩
  cases ht : t x ρ with
  | none => rw [ht] at p; exact p.elim
  | some ρ' =>
    rw [ht] at p
    exact ⟨μ1, S1, ρ, x, ρ', R1, E.mono R E1, rv, ht, fun σ' E2 _ _ => p μ1 H1 σ' E1 R1 E2⟩
/-! ### o[i] = v -/
def keyOf : PV → Option Key
  | .int i => some (.inl i)
  | .str x => some (.inr x)
  | _ => none
def putP (kvs : List (Key × PV)) (k : Key) (v : PV) : List (Key × PV) :=
  if (kvs.any fun kv => decide (kv.1 = k)) = true then kvs.map (fun kv => if kv.1 = k then (kv.1, v) else kv) else kvs ++ [(k, v)]
def storeAt (o i v : PV) (S : Store) : Option Store := match o with
  | .ref j => match S[j]?, i with
    | some (.lst xs), .int k => (ixN xs.length k).map fun n => S.set j (.lst (xs.set n v))
    | some (.dic kvs), .int k => if kvs.length < sizeLine then some (S.set j (.dic (putP kvs (.inl k) v))) else none
    | some (.dic kvs), .str k => if kvs.length < sizeLine then some (S.set j (.dic (putP kvs (.inr k) v))) else none
    | _, _ => none
  | _ => none
def sSub (o i v : TV) : TSt := fun ρ S => (v ρ S).sr ρ fun y S => (o ρ S).sr ρ fun x S => (i ρ S).sr ρ fun k S => match storeAt x k y S with
  | some S' => .nx ρ S'
  | none => .bad
def rSetS (K : PySem.W.Frag) (cm : Str → Value → Prop) : V → V → V → Hp → (Hp → Prop) → Prop := fun o i v H Q => ∃ μ S x k y S', RS K cm μ S H ∧ RV K μ H x o ∧ RV K μ H k i ∧ RV K μ H y v ∧ storeAt x k y S = some S' ∧
  ∀ H', Ext μ H μ H' → RS K cm μ S' H' → Q H'
theorem RKs.putP {K : PySem.W.Frag} {μ : List Addr} {H : Hp} {kvs : List (Key × PV)} {vs : List (Key × V)} (r : RKs K μ H kvs vs) (k : Key) {y : PV} {v : V} (ry : RV K μ H y v) : RKs K μ H (putP kvs k y) (putK vs k v) := by
  have hany : (kvs.any fun kv => decide (kv.1 = k)) = vs.any fun kv => decide (kv.1 = k) := by
    induction r with
    | nil => rfl
    | cons h t ih => rw [List.any_cons, List.any_cons, ih, h.1]
  unfold Ev.putP putK
  rw [hany]
  split
  · clear hany
    rename_i h; clear h
    induction r with
    | nil => exact .nil
    | @cons p q _ _ h t ih =>
      rw [List.map_cons, List.map_cons]
      refine .cons ?_ ih
      by_cases e : p.1 = k
      · rw [if_pos e, if_pos (h.1 ▸ e)]; exact ⟨h.1, ry⟩
      · rw [if_neg e, if_neg (h.1 ▸ e)]; exact h
  · clear hany
    rename_i h; clear h
    induction r with
    | nil => exact .cons ⟨rfl, ry⟩ .nil
    | cons h t ih => exact .cons h ih
theorem length_putP (kvs : List (Key × PV)) (k : Key) (v : PV) : (putP kvs k v).length ≤ kvs.length + 1 := by
  unfold putP; split <;> simp
theorem set_any (hu : X.A.units + 1 < cLine) : PSet X (rSetS X.K (cmX X)) := by
  intro pins s σ H o i v ov iv u Q I ro ri rv h
  obtain ⟨μ, S, x, k, y, S', R, r1, r2, r3, he, q⟩ := h
  cases r1 with
  | @ref j a hj =>
    simp only [storeAt] at he
    cases e : S[j]? with
    | none => rw [e] at he; simp at he
    | some ob =>
      rw [e] at he
      cases ob with
      | lst xs =>
        cases r2 with
        | int z =>
          obtain ⟨vs, e1, l, r⟩ := R.ob j a _ hj e
          simp only [Option.map_eq_some_iff] at he
          obtain ⟨n, hn, rfl⟩ := he
          refine set_list pins s σ H _ _ v ov iv u Q I ro ri rv ⟨a, vs, z, n, rfl, rfl, e1, by rw [← r.length]; exact hn, q _ (Ext.put hj) (R.put hj ⟨_, upd_same, by simpa using l, ?_⟩)⟩
          exact RVs.mono R (Ext.put hj) (RVs.set r3 n r)
        | _ => simp at he
      | dic kvs =>
        obtain ⟨vs, e1, l, r⟩ := R.ob j a _ hj e
        have key : ∀ (k : Key), kvs.length < sizeLine → S' = S.set j (.dic (putP kvs k y)) → RelV (kV k) iv → wpAny (model X.prog X.w) X.A (setItem ov iv u) (fun _ s' => ∃ H', Inv X pins σ H' s' ∧ Q H') X.xe s := fun k hl hS rk => by
          subst hS
          cases ro
          refine d_setItem hu I (DPut.k e1 (by rw [← r.length]; exact hl)) rk rv fun s' I' => ⟨_, I', q _ (Ext.put hj) (R.put hj ⟨_, upd_same, ?_, ?_⟩)⟩
          · have := length_putP kvs k y; omega
          · exact RKs.mono R (Ext.put hj) (r.putP k r3)
        cases r2 with
        | int z =>
          simp only at he
          split at he
          · rename_i hl; cases he; exact key (.inl z) hl rfl ri
          · cases he
        | str z _ =>
          simp only at he
          split at he
          · rename_i hl; cases he; exact key (.inr z) hl rfl ri
          · cases he
        | _ => simp at he
      | ins C fs => cases r2 <;> simp at he
  | _ => simp [storeAt] at he
theorem ss_sub {o i e : Expr} {vo vi ve : TV} {tpos : Pos} (hu : X.A.units + 1 < cLine) (he : PE X e (E_ X W ve)) (ho : PE X o (E_ X W vo)) (hi : PE X i (E_ X W vi))
    (ha : ∀ v, assign (.Subscript o i tpos) X.env v = (do
      let ov ← holding [v] (eval o X.env)
      let iv ← holding [v, ov] (eval i X.env)
      standAt tpos
      holding [v, ov, iv] (setItem ov iv v)
      release [v, ov, iv] []) := by intro _; rfl) (hs : swapsWithSole [.Subscript o i tpos] e pos.line X.env = pure false := by rfl) (hw : swappedStores [.Subscript o i tpos] e X.env = pure none := by rfl)
    (h1 : (assignEach [.Subscript o i tpos] X.env).map (·.2) = [assign (.Subscript o i tpos) X.env] := by rfl) : PS X (.Assign [.Subscript o i tpos] e pos) (S_ X W (sSub vo vi ve)) := by
  refine PS.imp (ps_asg he (pg_sub ho hi (set_any hu) ha) hs hw h1) fun D σ H h => ?_
  obtain ⟨μ, S, ρ, R, E, p⟩ := h
  refine ⟨μ, S, ρ, R, E, sr_step E R p fun y S1 μ1 H1 v E1 R1 rv p => ?_⟩
  refine ⟨μ1, S1, ρ, R1, E.mono R E1, sr_step (D := D) (E.mono R E1) R1 (p.ext E1) fun x S2 μ2 H2 w E2 R2 rw p => ?_⟩
  refine ⟨μ2, S2, ρ, R2, (E.mono R E1).mono R1 E2, sr_step (D := D) ((E.mono R E1).mono R1 E2) R2 (p.ext E2) fun k S3 μ3 H3 w3 E3 R3 r3 p => ?_⟩
  cases hst : storeAt x k y S3 with
  | none => rw [hst] at p; exact p.elim
  | some S' =>
    rw [hst] at p
    exact ⟨μ3, S3, x, k, y, S', R3, rw.mono R2 E3, r3, (rv.mono R1 E2).mono R2 E3, hst, fun H' E4 R4 => p μ3 H' σ (E3.trans E4) R4 ((((E.mono R E1).mono R1 E2).mono R2 E3).mono R3 E4)⟩
/-! ### name op= e -/
def sAug (i : Nat) (f : PV → PV → Store → Option PV) (e : TV) : TSt := fun ρ S => match ρ[i]? with
  | some (some x) => (e ρ S).sr ρ fun y S => match f x y S with
    | some z => .nx (ρ.set i (some z)) S
    | none => .bad
  | _ => .bad
theorem ss_aug {i : Nat} {x : Str} {op : Operator} {f : PV → PV → Store → Option PV} {pos' : Pos} (hN : X.N.Nodup) (hi : X.N[i]? = some x) (hx : Loc X.env.scope x) (he : PE X e (E_ X W ev)) (ho : OpS X (inplaceOp op) f) (hf : X.fn x = true ∨ X.env.scope.names.lookup x = some .local := by first | exact .inl rfl | exact .inr rfl | assumption) :
    PS X (.AugAssign (.Name x pos') op e pos) (S_ X W (sAug i f ev)) := by
  refine PS.imp (ps_aug hN hi hx he (ti := rO X.K (cmX X) f) (fun pins s σ H x y v u Q I rx ry q => ho pins s σ H x y v u Q I rx ry q) hf) fun D σ H h => ?_
  obtain ⟨μ, S, ρ, R, E, p⟩ := h
  unfold sAug at p
  split at p
  · rename_i x hx
    obtain ⟨v, hv, rx⟩ := E.2 i x hx
    refine ⟨v, hv, μ, S, ρ, R, E, sr_step E R p fun y S1 μ1 H1 w E1 R1 rw p => ?_⟩
    cases hz : f x y S1 with
    | none => rw [hz] at p; exact p.elim
    | some z =>
      rw [hz] at p
      exact ⟨μ1, S1, x, y, z, R1, rx.mono R E1, rw, hz, fun H' u E2 R2 r2 => p μ1 H' _ (E1.trans E2) R2 (((E.mono R E1).mono R1 E2).set r2 i)⟩
  · exact p.elim
def oAddI (x y : PV) (_ : Store) : Option PV := match x, y with
  | .int a, .int b => some (.int (a + b))
  | _, _ => none
theorem os_iaddI : OpS X (inplaceOp .Add) oAddI := by
  refine osI (C := fun _ _ => True) (G := fun i j => i + j) (fun pins s σ H x y v u Q I rx ry ⟨i, j, e1, e2, _, q⟩ => iop_add pins s σ H x y v u Q I rx ry ⟨i, j, e1, e2, q⟩) fun x y S z h => ?_
  cases x <;> cases y <;> simp [oAddI] at h
  exact ⟨_, _, rfl, rfl, trivial, h.symm⟩
theorem os_isub : OpS X (inplaceOp .Sub) oSub := by
  refine osI (C := fun _ _ => True) (G := fun i j => i - j) (fun pins s σ H x y v u Q I rx ry ⟨i, j, e1, e2, _, q⟩ => iop_sub pins s σ H x y v u Q I rx ry ⟨i, j, e1, e2, q⟩) fun x y S z h => ?_
  cases x <;> cases y <;> simp [oSub] at h
  exact ⟨_, _, rfl, rfl, trivial, h.symm⟩
end
end Ev

/-! Fw6: what is walked; for, while, comprehensions. -/
namespace Ev
open PySem PySem.Spec PyProof.Rows L2
/-! ### what is walked -/
section
variable {X : Cx} {W : WX} {e : Expr} {ev : TV} {el : TL} {it : TIt} {pos : Pos} {tg : Expr}
/-- the items of a list or a tuple, of a text sign by sign; a list of the store is told with its number -/
def itemsOf (x : PV) (S : Store) : Option LI := match x with
  | .tup xs => some (xs, none)
  | .frl xs => some (xs, none)
  | .str z => some (z.cps.toList.map fun c => .str ⟨#[c]⟩, none)
  | .ref i => match S[i]? with
    | some (.lst xs) => some (xs, some (.one i xs))
    | _ => none
  | _ => none
/-- a list as what is walked -/
def toI (l : LL) : LI := (l.1, l.2.map fun j => .one j l.1)
def iL (l : TL) : TIt := fun ρ S => (l ρ S).bind fun l S => .ok (toI l) S
def iV (e : TV) : TIt := fun ρ S => (e ρ S).bind fun x S => match itemsOf x S with
  | some l => .ok l S
  | none => .bad
theorem it_tup {K : PySem.W.Frag} {cm : Str → Value → Prop} {μ : List Addr} {S : Store} {H : Hp} {a : Addr} {xs : List PV} {vs : List V} (R : RS K cm μ S H) (s : SqT K H a vs) (l : xs.length ≤ sizeLine) (r : RVs K μ H xs vs) : ItOk K cm (Itt K a) μ H (xs, none) := by
  refine ⟨l, fun i μ' S' H' E R' _ => ⟨fun hi => ⟨vs, R.tupS E.up s, by rw [← r.length]; exact hi⟩, fun x hx => ?_⟩⟩
  obtain ⟨v, hv, rv⟩ := (r.mono R E).get hx
  refine ⟨⟨vs, v, R.tupS E.up s, hv⟩, fun w H'' hy => ?_⟩
  obtain ⟨rfl, f⟩ := hy
  have := f _ (R.tupS E.up s)
  rw [hv] at this; cases this
  exact ⟨Ext.refl, R', rv⟩
theorem it_frl {K : PySem.W.Frag} {cm : Str → Value → Prop} {μ : List Addr} {S : Store} {H : Hp} {a : Addr} {xs : List PV} {vs : List V} (R : RS K cm μ S H) (s : FL K H a vs) (l : xs.length ≤ sizeLine) (r : RVs K μ H xs vs) : ItOk K cm (Itl K a) μ H (xs, none) := by
  refine ⟨l, fun i μ' S' H' E R' _ => ⟨fun hi => ⟨vs, (R.flS E.up s).sq, by rw [← r.length]; exact hi⟩, fun x hx => ?_⟩⟩
  obtain ⟨v, hv, rv⟩ := (r.mono R E).get hx
  refine ⟨⟨vs, v, (R.flS E.up s).sq, hv⟩, fun w H'' hy => ?_⟩
  obtain ⟨rfl, f⟩ := hy
  have := f _ (R.flS E.up s).sq
  rw [hv] at this; cases this
  exact ⟨Ext.refl, R', rv⟩
theorem it_lst {K : PySem.W.Frag} {cm : Str → Value → Prop} {μ : List Addr} {S : Store} {H0 H : Hp} {a : Addr} {l : LL} (R : RS K cm μ S H) (rl : RL K H0 μ S H l a) : ItOk K cm (Itl K a) μ H (toI l) := by
  refine ⟨let ⟨_, _, h, _⟩ := rl.lst R; h , fun i μ' S' H' E R' lk => ?_⟩
  have key : ∃ vs, H' a = some (.lst vs) ∧ RVs K μ' H' l.1 vs := by
    unfold RL at rl
    unfold lkI toI at lk
    cases hl : l.2 with
    | none =>
      rw [hl] at rl
      obtain ⟨_, hm, vs, h1, _, r⟩ := rl
      exact ⟨vs, E.kp _ _ h1 hm, r.mono R E⟩
    | some j =>
      rw [hl] at rl lk
      have lk : S'[j]? = some (.lst l.1) := lk
      obtain ⟨vs, h1, _, r⟩ := R'.ob j a _ (E.pre _ _ rl.1) lk
      exact ⟨vs, h1, r⟩
  obtain ⟨vs, hs, r⟩ := key
  refine ⟨fun hi => ⟨vs, SqL.of hs, by rw [← r.length]; exact hi⟩, fun x hx => ?_⟩
  obtain ⟨v, hv, rv⟩ := r.get hx
  refine ⟨⟨vs, v, SqL.of hs, hv⟩, fun w H'' hy => ?_⟩
  obtain ⟨rfl, f⟩ := hy
  have := f _ (SqL.of hs)
  rw [hv] at this; cases this
  exact ⟨Ext.refl, R', rv⟩
theorem it_str {K : PySem.W.Frag} {cm : Str → Value → Prop} {μ : List Addr} {S : Store} {H : Hp} {z : Str} (R : RS K cm μ S H) (ok : SOk z) : ItOk K cm (Its z) μ H (z.cps.toList.map fun c => .str ⟨#[c]⟩, none) := by
  refine ⟨by have h : z.cps.size ≤ sizeLine := ok.1; simpa using h, fun i μ' S' H' E R' _ => ⟨fun hi => by show z.cps.size ≤ i; simpa using hi, fun x hx => ?_⟩⟩
  rw [List.getElem?_map] at hx
  simp only [Option.map_eq_some_iff] at hx
  obtain ⟨c, hc, rfl⟩ := hx
  have hi : i < z.cps.size := by
    have := (List.getElem?_eq_some_iff.mp hc).1
    simpa using this
  refine ⟨hi, fun w H'' hy => ?_⟩
  obtain ⟨rfl, d, hd, rfl⟩ := hy
  rw [Array.getElem?_toList] at hc
  rw [hc] at hd; cases hd
  exact ⟨Ext.refl, R', .str _ (strOk_one ok.2 (by
    have : c ∈ z.cps := Array.mem_of_getElem? hc
    simpa using this))⟩
theorem si_val (he : PE X e (E_ X W ev)) : PI X tg e (I_ X W (iV ev)) := by
  refine ⟨fun pins s σ H R' I h => ?_⟩
  obtain ⟨μ, S, ρ, R, E, p⟩ := h
  unfold iV at p
  cases hr : ev ρ S with
  | bad => rw [hr] at p; exact p.elim
  | exc x S1 =>
    refine (pi_list he).run pins s σ H R' I ⟨μ, S, ρ, R, E, ?_⟩
    rw [hr] at p ⊢
    exact p
  | ok x S1 =>
    rw [hr] at p
    simp only [bind_ok] at p
    cases x with
    | tup xs =>
      refine (pi_tup he).run pins s σ H R' I ⟨μ, S, ρ, R, E, ?_⟩
      rw [hr]
      intro μ1 H1 v E1 R1 rv
      cases rv with
      | tup s l r => exact ⟨_, rfl, ⟨_, s⟩, p μ1 H1 _ E1 R1 (it_tup R1 s l r)⟩
    | frl xs =>
      refine (pi_list he).run pins s σ H R' I ⟨μ, S, ρ, R, E, ?_⟩
      rw [hr]
      intro μ1 H1 v E1 R1 rv
      cases rv with
      | frl s l r => exact ⟨_, rfl, ⟨_, s.sq⟩, p μ1 H1 _ E1 R1 (it_frl R1 s l r)⟩
    | str z =>
      refine (pi_str he).run pins s σ H R' I ⟨μ, S, ρ, R, E, ?_⟩
      rw [hr]
      intro μ1 H1 v E1 R1 rv
      cases rv with
      | str _ ok => exact ⟨z, rfl, p μ1 H1 _ E1 R1 (it_str R1 ok)⟩
    | ref i =>
      refine (pi_list he).run pins s σ H R' I ⟨μ, S, ρ, R, E, ?_⟩
      rw [hr]
      intro μ1 H1 v E1 R1 rv
      simp only [itemsOf] at p
      cases rv with
      | @ref _ a hi =>
        cases hS : S1[i]? with
        | none => rw [hS] at p; exact p.elim
        | some o =>
          rw [hS] at p
          cases o with
          | lst xs =>
            obtain ⟨vs, h1, _, r⟩ := R1.ob i a _ hi hS
            exact ⟨a, rfl, ⟨vs, SqL.of h1⟩, p μ1 H1 _ E1 R1 (it_lst (H0 := H) R1 (l := (xs, some i)) ⟨hi, hS⟩)⟩
          | dic _ => exact p.elim
          | ins _ _ => exact p.elim
    | non => exact p.elim
    | bl _ => exact p.elim
    | int _ => exact p.elim
theorem si_list (he : PE X e (L_ X W el)) : PI X tg e (I_ X W (iL el)) := by
  refine PI.imp (pi_list he) fun σ H R' h => ?_
  obtain ⟨μ, S, ρ, R, E, p⟩ := h
  refine ⟨μ, S, ρ, R, E, ?_⟩
  unfold iL at p
  cases hr : el ρ S with
  | bad => rw [hr] at p; exact p
  | exc x S1 => rw [hr] at p; exact p
  | ok l S1 =>
    rw [hr] at p
    intro μ1 H1 a E1 R1 rl
    obtain ⟨vs, h1, _, r⟩ := rl.lst R1
    exact ⟨a, rfl, ⟨vs, SqL.of h1⟩, p μ1 H1 _ E1 R1 (it_lst R1 rl)⟩
/-! ### range -/
def rangeL (lo : Int) (n : Nat) : List PV := (List.range n).map fun i => .int (lo + (i : Nat))
theorem it_range {K : PySem.W.Frag} {cm : Str → Value → Prop} {μ : List Addr} {H : Hp} {lo : Int} {n : Nat} (hn : n ≤ sizeLine) : ItOk K cm (Itr lo n) μ H (rangeL lo n, none) := by
  refine ⟨by simpa [rangeL] using hn, fun i μ' S' H' E R' _ => ⟨fun hi => by show n ≤ i; simpa [rangeL] using hi, fun x hx => ?_⟩⟩
  simp only [rangeL, List.getElem?_map, Option.map_eq_some_iff] at hx
  obtain ⟨j, hj, rfl⟩ := hx
  have hi : i < n := by
    have := (List.getElem?_eq_some_iff.mp hj).1
    simpa using this
  rw [List.getElem?_range hi] at hj
  cases hj
  exact ⟨hi, fun w H'' hy => by obtain ⟨rfl, rfl⟩ := hy; exact ⟨Ext.refl, R', .int _⟩⟩
def iRng (es : TVs) : TIt := fun ρ S => (es ρ S).bind fun xs S => match xs with
  | [.int j] => if -(2 ^ 62) ≤ j ∧ j ≤ 16777216 then .ok (rangeL 0 j.toNat, none) S else .bad
  | [.int i, .int j] => if -(2 ^ 62) ≤ i ∧ i < 2 ^ 62 ∧ -(2 ^ 62) ≤ j ∧ j < 2 ^ 62 ∧ j - i ≤ 16777216 then .ok (rangeL i (j - i).toNat, none) S else .bad
  | _ => .bad
variable {a b : Expr} {evs : TVs} {p : Pos}
theorem si_range1 (hg : Gl X "range") (hm : X.mg "range" = none) (ha : PA X [a] (A_ X W evs)) (hn : ∀ ρ S xs S', evs ρ S = .ok xs S' → xs.length = 1) (hs : starEach [a] X.env = [(false, eval a X.env)] := by rfl) : PI X tg (.Call (.Name "range" p) [a] [] pos) (I_ X W (iRng evs)) := by
  refine PI.imp (pi_range1 hg hm ha hs) fun σ H R' h => ?_
  obtain ⟨μ, S, ρ, R, E, q⟩ := h
  refine ⟨μ, S, ρ, R, E, ?_⟩
  unfold iRng at q
  cases hr : evs ρ S with
  | bad => rw [hr] at q; exact q
  | exc x S1 => rw [hr] at q; exact q
  | ok xs S1 =>
    rw [hr] at q
    intro μ1 H1 vs E1 R1 rv
    have hl := hn _ _ _ _ hr
    simp only [bind_ok] at q
    split at q
    · rename_i j
      obtain ⟨v, rfl, r1⟩ := rv.one
      cases r1
      split at q
      · rename_i hb
        exact ⟨j, rfl, hb.1, by omega, q μ1 H1 _ E1 R1 (it_range (by rw [sizeLine_eq]; omega))⟩
      · exact q.elim
    · cases hl
    · exact q.elim
theorem si_range2 (hg : Gl X "range") (hm : X.mg "range" = none) (ha : PA X [a, b] (A_ X W evs)) (hn : ∀ ρ S xs S', evs ρ S = .ok xs S' → xs.length = 2) (hs : starEach [a, b] X.env = [(false, eval a X.env), (false, eval b X.env)] := by rfl) (hs2 : starEach [b] X.env = [(false, eval b X.env)] := by rfl) : PI X tg (.Call (.Name "range" p) [a, b] [] pos) (I_ X W (iRng evs)) := by
  refine PI.imp (pi_range2 hg hm ha hs hs2) fun σ H R' h => ?_
  obtain ⟨μ, S, ρ, R, E, q⟩ := h
  refine ⟨μ, S, ρ, R, E, ?_⟩
  unfold iRng at q
  cases hr : evs ρ S with
  | bad => rw [hr] at q; exact q
  | exc x S1 => rw [hr] at q; exact q
  | ok xs S1 =>
    rw [hr] at q
    intro μ1 H1 vs E1 R1 rv
    have hl := hn _ _ _ _ hr
    simp only [bind_ok] at q
    split at q
    · cases hl
    · rename_i i j
      obtain ⟨v, w, rfl, r1, r2⟩ := rv.two
      cases r1; cases r2
      split at q
      · rename_i hb
        exact ⟨i, j, rfl, ⟨hb.1, hb.2.1, hb.2.2.1, hb.2.2.2.1⟩, q μ1 H1 _ E1 R1 (it_range (by rw [sizeLine_eq]; omega))⟩
      · exact q.elim
    · exact q.elim
theorem vs1_len {a : TV} {ρ : Env'} {S S' : Store} {xs : List PV} (h : vsCons a vsNil ρ S = .ok xs S') : xs.length = 1 := by
  unfold vsCons vsNil at h
  cases h1 : a ρ S with
  | ok x S1 => rw [h1] at h; simp at h; rw [← h.1]; rfl
  | exc _ _ => rw [h1] at h; cases h
  | bad => rw [h1] at h; cases h
theorem vs2_len {a b : TV} {ρ : Env'} {S S' : Store} {xs : List PV} (h : vsCons a (vsCons b vsNil) ρ S = .ok xs S') : xs.length = 2 := by
  unfold vsCons vsNil at h
  cases h1 : a ρ S with
  | ok x S1 =>
    rw [h1] at h
    simp only [bind_ok] at h
    cases h2 : b ρ S1 with
    | ok y S2 => rw [h2] at h; simp at h; rw [← h.1]; rfl
    | exc _ _ => rw [h2] at h; cases h
    | bad => rw [h2] at h; cases h
  | exc _ _ => rw [h1] at h; cases h
  | bad => rw [h1] at h; cases h
/-! ### for -/
noncomputable def forL (tg : Tgt) (b : TSt) (l : LI) : List PV → Env' → Store → SR
  | [], ρ, S => if lkI l S then .nx ρ S else .bad
  | x :: r, ρ, S => if lkI l S then match tg x ρ with
    | some ρ1 => match b ρ1 S with
      | .nx ρ' S' => forL tg b l r ρ' S'
      | .cnt ρ' S' => forL tg b l r ρ' S'
      | .brk ρ' S' => .nx ρ' S'
      | o => o
    | none => .bad
    else .bad
noncomputable def sFor (tg : Tgt) (it : TIt) (b : TSt) : TSt := fun ρ S => (it ρ S).sr ρ fun l S => forL tg b l l.1 ρ S
variable {vs : List Nat} {t : Tgt} {body : List Stmt} {sb : TSt}
theorem for_core {J : It} {μ0 : List Addr} {H0 : Hp} {l : LI} (ok : ItOk X.K (cmX X) J μ0 H0 l) {D : Ends} {σ : L2.St} {ρ : Env'} {S : Store} (R : RS X.K (cmX X) μ0 S H0) (E : RE X.K μ0 H0 ρ σ) (h : PostS X.K (cmX X) μ0 H0 (forL t sb l l.1 ρ S) D W) :
    ∃ Wv : Nat → Nat → L2.St → Hp → Prop, (∃ m, Wv 0 m σ H0) ∧ ∀ i m σ H, Wv i m σ H →
      (J.stop i H ∧ D.nx σ H) ∨ (J.go i H ∧ ∃ N : L2.St → Hp → Prop, (∀ σ' H', N σ' H' → ∃ m', m' < m ∧ Wv (i + 1) m' σ' H') ∧ ∀ x H', J.yld i H x H' → G_ X vs t x σ H' fun σ2 H2 => S_ X W sb { D with nx := N, ct := N, bk := D.nx } σ2 H2) := by
  refine ⟨fun i m σ H => i + m = l.1.length ∧ ∃ μ S ρ, Ext μ0 H0 μ H ∧ RS X.K (cmX X) μ S H ∧ RE X.K μ H ρ σ ∧ PostS X.K (cmX X) μ H (forL t sb l (l.1.drop i) ρ S) D W, ⟨l.1.length, by omega, μ0, S, ρ, Ext.refl, R, E, by simpa using h⟩, fun i m σ H hW => ?_⟩
  obtain ⟨him, μ, S, ρ, Ex, R, E, p⟩ := hW
  cases hd : l.1.drop i with
  | nil =>
    rw [hd] at p
    unfold forL at p
    split at p
    · rename_i lk
      refine .inl ⟨((ok.step i μ S H Ex R lk).1 ?_), p μ H σ Ext.refl R E⟩
      have := List.drop_eq_nil_iff.mp hd
      exact this
    · exact p.elim
  | cons x r =>
    have hx : l.1[i]? = some x := by
      have := List.getElem?_drop (xs := l.1) (i := i) (j := 0)
      rw [hd] at this
      simpa using this.symm
    have hr : r = l.1.drop (i + 1) := by
      rw [List.drop_add_one_eq_tail_drop, hd]; rfl
    rw [hd] at p
    unfold forL at p
    split at p
    · rename_i lk
      obtain ⟨hgo, hy⟩ := (ok.step i μ S H Ex R lk).2 x hx
      refine .inr ⟨hgo, fun σ' H' => i + 1 + (m - 1) = l.1.length ∧ ∃ μ' S' ρ', Ext μ0 H0 μ' H' ∧ RS X.K (cmX X) μ' S' H' ∧ RE X.K μ' H' ρ' σ' ∧ PostS X.K (cmX X) μ' H' (forL t sb l (l.1.drop (i + 1)) ρ' S') D W, fun σ' H' hN => ⟨m - 1, ?_, hN⟩, fun v H' hyl => ?_⟩
      · have := (List.getElem?_eq_some_iff.mp hx).1
        omega
      · obtain ⟨E1, R1, rv⟩ := hy v H' hyl
        cases ht : t x ρ with
        | none => rw [ht] at p; exact p.elim
        | some ρ1 =>
          rw [ht] at p
          dsimp only at p
          refine ⟨μ, S, ρ, x, ρ1, R1, E.mono R E1, rv, ht, fun σ1 Eσ _ _ => ?_⟩
          refine ⟨μ, S, ρ1, R1, Eσ, ?_⟩
          have p := PostS.ext E1 p
          have hlen : i < l.1.length := (List.getElem?_eq_some_iff.mp hx).1
          cases hb : sb ρ1 S with
          | nx ρ' S' => rw [hb] at p; exact fun μ2 H2 σ2 E2 R2 r2 => ⟨by omega, μ2, S', ρ', (Ex.trans E1).trans E2, R2, r2, by rw [← hr]; exact PostS.ext E2 p⟩
          | cnt ρ' S' => rw [hb] at p; exact fun μ2 H2 σ2 E2 R2 r2 => ⟨by omega, μ2, S', ρ', (Ex.trans E1).trans E2, R2, r2, by rw [← hr]; exact PostS.ext E2 p⟩
          | brk ρ' S' => rw [hb] at p; exact p
          | ret v S' => rw [hb] at p; exact p
          | exc e ρ' S' => rw [hb] at p; exact p
          | bad => rw [hb] at p; exact p
    · exact p.elim
theorem ss_for {iter : Expr} (hp : PassesOwn (model X.prog X.w) X.A X.env X.xe) (hc : X.calm = true) (hi : PI X tg iter (I_ X W it)) (hg : PG X tg (G_ X vs t)) (hb : PSs X body (S_ X W sb))
    (hs : ∀ x, foldedSetIterable iter X.env x = pure x := by intro _; rfl) : PS X (.For tg iter body [] pos) (S_ X W (sFor t it sb)) := by
  refine PS.imp (ps_for hp hc hi hg hb hs) fun D σ H h => ?_
  obtain ⟨μ, S, ρ, R, E, p⟩ := h
  refine ⟨μ, S, ρ, R, E, ?_⟩
  unfold sFor at p
  cases hr : it ρ S with
  | bad => rw [hr] at p; exact p
  | exc x S1 => rw [hr] at p; exact fun μ' H' c d e r q => p μ' H' σ c d e r (E.mono R e) q
  | ok l S1 =>
    rw [hr] at p
    intro μ1 H1 J E1 R1 ok
    exact for_core ok R1 (E.mono R E1) (p.ext E1)
/-! ### while -/
def whileL (c : TB) (b : TSt) : Nat → Env' → Store → SR
  | 0, _, _ => .bad
  | k + 1, ρ, S => (c ρ S).sr ρ fun x S => if x = true then match b ρ S with
    | .nx ρ' S' => whileL c b k ρ' S'
    | .cnt ρ' S' => whileL c b k ρ' S'
    | .brk ρ' S' => .nx ρ' S'
    | o => o
    else .nx ρ S
theorem whileL_mono (c : TB) (b : TSt) : ∀ (k : Nat) (ρ : Env') (S : Store), whileL c b k ρ S ≠ .bad → whileL c b (k + 1) ρ S = whileL c b k ρ S
  | 0, ρ, S, h => absurd rfl h
  | k + 1, ρ, S, h => by
    rw [whileL] at h
    rw [whileL, whileL]
    cases hc : c ρ S with
    | bad => rfl
    | exc e S' => rfl
    | ok x S' =>
      rw [hc] at h
      simp only [sr_ok] at h ⊢
      cases x with
      | false => rfl
      | true =>
        rw [if_pos rfl] at h
        rw [if_pos rfl, if_pos rfl]
        cases hb : b ρ S' with
        | nx ρ' S2 => rw [hb] at h; exact whileL_mono c b k ρ' S2 h
        | cnt ρ' S2 => rw [hb] at h; exact whileL_mono c b k ρ' S2 h
        | brk ρ' S2 => rfl
        | ret v S2 => rfl
        | exc e ρ' S2 => rfl
        | bad => rfl
theorem whileL_le (c : TB) (b : TSt) {k n : Nat} (h : k ≤ n) (ρ : Env') (S : Store) (hb : whileL c b k ρ S ≠ .bad) : whileL c b n ρ S = whileL c b k ρ S := by
  induction h with
  | refl => rfl
  | step _ ih => rw [whileL_mono c b _ ρ S (by rw [ih]; exact hb), ih]
open Classical in
/-- the while's end, however many turns it takes -/
noncomputable def sWhile (c : TB) (b : TSt) : TSt := fun ρ S => if h : ∃ k, whileL c b k ρ S ≠ .bad then whileL c b h.choose ρ S else .bad
theorem sWhile_of {c : TB} {b : TSt} {ρ : Env'} {S : Store} {k : Nat} (h : whileL c b k ρ S ≠ .bad) : sWhile c b ρ S = whileL c b k ρ S := by
  have hx : ∃ k, whileL c b k ρ S ≠ .bad := ⟨k, h⟩
  unfold sWhile
  rw [dif_pos hx]
  rcases Nat.le_total k hx.choose with hl | hl
  · exact whileL_le c b hl ρ S h
  · exact (whileL_le c b hl ρ S hx.choose_spec).symm
theorem sWhile_bad {c : TB} {b : TSt} {ρ : Env'} {S : Store} (h : sWhile c b ρ S ≠ .bad) : ∃ k, sWhile c b ρ S = whileL c b k ρ S := by
  unfold sWhile at h ⊢
  split
  · exact ⟨_, rfl⟩
  · rename_i hn; rw [dif_neg hn] at h; exact absurd rfl h
/-- one turn -/
theorem sWhile_eq (c : TB) (b : TSt) (ρ : Env') (S : Store) : sWhile c b ρ S = (c ρ S).sr ρ fun x S => if x = true then match b ρ S with
    | .nx ρ' S' => sWhile c b ρ' S'
    | .cnt ρ' S' => sWhile c b ρ' S'
    | .brk ρ' S' => .nx ρ' S'
    | o => o
    else .nx ρ S := by
  have step : ∀ k, whileL c b (k + 1) ρ S ≠ .bad → whileL c b (k + 1) ρ S = (c ρ S).sr ρ fun x S => if x = true then match b ρ S with
    | .nx ρ' S' => sWhile c b ρ' S'
    | .cnt ρ' S' => sWhile c b ρ' S'
    | .brk ρ' S' => .nx ρ' S'
    | o => o
    else .nx ρ S := fun k h => by
    rw [whileL] at h ⊢
    cases hc : c ρ S with
    | bad => rfl
    | exc e S' => rfl
    | ok x S' =>
      rw [hc] at h
      simp only [sr_ok] at h ⊢
      cases x with
      | false => rfl
      | true =>
        rw [if_pos rfl] at h
        rw [if_pos rfl, if_pos rfl]
        cases hb : b ρ S' with
        | nx ρ' S2 => rw [hb] at h; exact (sWhile_of h).symm
        | cnt ρ' S2 => rw [hb] at h; exact (sWhile_of h).symm
        | brk ρ' S2 => rfl
        | ret v S2 => rfl
        | exc e ρ' S2 => rfl
        | bad => rfl
  by_cases hx : ∃ k, whileL c b k ρ S ≠ .bad
  · obtain ⟨k, hk⟩ := hx
    have hk' : whileL c b (k + 1) ρ S ≠ .bad := by rw [whileL_mono c b k ρ S hk]; exact hk
    rw [sWhile_of hk', step k hk']
  · have h0 : sWhile c b ρ S = .bad := by unfold sWhile; rw [dif_neg hx]
    rw [h0]
    symm
    cases hc : c ρ S with
    | bad => rfl
    | exc e S' =>
      exact absurd ⟨1, by rw [whileL, hc]; exact fun z => nomatch z⟩ hx
    | ok x S' =>
      simp only [sr_ok]
      cases x with
      | false => exact absurd ⟨1, by rw [whileL, hc]; exact fun z => nomatch z⟩ hx
      | true =>
        rw [if_pos rfl]
        have up : ∀ ρ' S2, (b ρ S' = .nx ρ' S2 ∨ b ρ S' = .cnt ρ' S2) → sWhile c b ρ' S2 = .bad := fun ρ' S2 hb => by
          refine Classical.byContradiction fun hn => ?_
          obtain ⟨k, hk⟩ := sWhile_bad hn
          refine hx ⟨k + 1, ?_⟩
          rw [whileL, hc]
          simp only [sr_ok, if_pos]
          rcases hb with hb | hb <;> (rw [hb]; rw [hk] at hn; exact hn)
        cases hb : b ρ S' with
        | nx ρ' S2 => exact up ρ' S2 (.inl hb)
        | cnt ρ' S2 => exact up ρ' S2 (.inr hb)
        | brk ρ' S2 => exact absurd ⟨1, by rw [whileL, hc]; simp only [sr_ok, if_pos]; rw [hb]; exact fun z => nomatch z⟩ hx
        | ret v S2 => exact absurd ⟨1, by rw [whileL, hc]; simp only [sr_ok, if_pos]; rw [hb]; exact fun z => nomatch z⟩ hx
        | exc e ρ' S2 => exact absurd ⟨1, by rw [whileL, hc]; simp only [sr_ok, if_pos]; rw [hb]; exact fun z => nomatch z⟩ hx
        | bad => rfl
theorem ss_while {c : Expr} {tc : TB} (hp : PassesOwn (model X.prog X.w) X.A X.env X.xe) (hc : PT X c (T_ X W tc)) (hb : PSs X body (S_ X W sb)) : PS X (.While c body [] pos) (S_ X W (sWhile tc sb)) := by
  refine PS.imp (ps_while hp hc hb) fun D σ H h => ?_
  obtain ⟨μ, S, ρ, R, E, p⟩ := h
  have hn : sWhile tc sb ρ S ≠ .bad := fun z => by rw [z] at p; exact p
  obtain ⟨k, hk⟩ := sWhile_bad hn
  rw [hk] at p
  refine ⟨fun m σ H => ∃ μ S ρ, RS X.K (cmX X) μ S H ∧ RE X.K μ H ρ σ ∧ PostS X.K (cmX X) μ H (whileL tc sb m ρ S) D W, ⟨k, μ, S, ρ, R, E, p⟩, fun m σ H hW => ?_⟩
  obtain ⟨μ, S, ρ, R, E, p⟩ := hW
  cases m with
  | zero => exact p.elim
  | succ m =>
    rw [whileL] at p
    refine ⟨μ, S, ρ, R, E, sr_stepB E R p fun x S1 μ1 H1 E1 R1 p => ?_⟩
    cases x with
    | false =>
      rw [if_neg (by decide)] at p ⊢
      exact p μ1 H1 σ E1 R1 (E.mono R E1)
    | true =>
      rw [if_pos rfl] at p ⊢
      refine ⟨fun σ' H' => ∃ μ S ρ, RS X.K (cmX X) μ S H' ∧ RE X.K μ H' ρ σ' ∧ PostS X.K (cmX X) μ H' (whileL tc sb m ρ S) D W, fun σ' H' hN => ⟨m, Nat.lt_succ_self m, hN⟩, μ1, S1, ρ, R1, E.mono R E1, ?_⟩
      have p := PostS.ext E1 p
      cases hb : sb ρ S1 with
      | nx ρ' S' => rw [hb] at p; exact fun μ2 H2 σ2 E2 R2 r2 => ⟨μ2, S', ρ', R2, r2, PostS.ext E2 p⟩
      | cnt ρ' S' => rw [hb] at p; exact fun μ2 H2 σ2 E2 R2 r2 => ⟨μ2, S', ρ', R2, r2, PostS.ext E2 p⟩
      | brk ρ' S' => rw [hb] at p; exact p
      | ret v S' => rw [hb] at p; exact p
      | exc e ρ' S' => rw [hb] at p; exact p
      | bad => rw [hb] at p; exact p
end
end Ev

/-! Fw7: comprehensions, functions and their calls. -/
namespace Ev
open PySem PySem.Spec PyProof.Rows L2
/-! ### comprehensions -/
def wipeE (ρ : Env') : List Nat → Env'
  | [] => ρ
  | v :: vs => (wipeE ρ vs).set v none
theorem wipe_get (σ : L2.St) (j : Nat) : ∀ vs : List Nat, j ∈ vs → j < σ.length → (wipe σ vs)[j]? = some none
  | [], h, _ => by cases h
  | v :: vs, h, hl => by
    show ((wipe σ vs).set v none)[j]? = some none
    by_cases e : v = j
    · subst e
      exact List.getElem?_set_self (by rw [wipe_length]; exact hl)
    · rw [List.getElem?_set_ne e]
      refine wipe_get σ j vs ?_ hl
      rcases List.mem_cons.mp h with h | h
      · exact absurd h.symm e
      · exact h
theorem wipe_congr {σ σ' : L2.St} {vs : List Nat} (hl : σ'.length = σ.length) (h : ∀ i, i ∉ vs → σ'[i]? = σ[i]?) : wipe σ' vs = wipe σ vs := by
  refine List.ext_getElem? fun i => ?_
  by_cases hi : i ∈ vs
  · by_cases hb : i < σ.length
    · rw [wipe_get σ i vs hi hb, wipe_get σ' i vs hi (by rw [hl]; exact hb)]
    · rw [List.getElem?_eq_none_iff.mpr (by rw [wipe_length]; omega), List.getElem?_eq_none_iff.mpr (by rw [wipe_length]; have := hl; omega)]
  · rw [wipe_out hi, wipe_out hi, h i hi]
theorem RE.wipe {K : PySem.W.Frag} {μ : List Addr} {H : Hp} {ρ : Env'} {σ : L2.St} (E : RE K μ H ρ σ) : ∀ vs : List Nat, RE K μ H (wipeE ρ vs) (L2.wipe σ vs)
  | [] => E
  | v :: vs => by
    have ih := RE.wipe E vs
    refine ⟨by show ((wipeE ρ vs).set v none).length = ((L2.wipe σ vs).set v none).length; simp [ih.1], fun i x e => ?_⟩
    have e' : ((wipeE ρ vs).set v none)[i]? = some (some x) := e
    by_cases h : v = i
    · subst h
      have hl : v < (wipeE ρ vs).length := by
        have := (List.getElem?_eq_some_iff.mp e').1
        simpa using this
      rw [List.getElem?_set_self hl] at e'
      cases e'
    · rw [List.getElem?_set_ne h] at e'
      obtain ⟨w, e1, r⟩ := ih.2 i x e'
      exact ⟨w, by show ((L2.wipe σ vs).set v none)[i]? = _; rw [List.getElem?_set_ne h]; exact e1, r⟩
/-- the turns of a comprehension; what the element raises isn't told -/
noncomputable def compL (tg : Tgt) (c : TB) (el : TV) (ρ : Env') (l : LI) : List PV → List PV → Store → Res LL
  | [], acc, S => if lkI l S then .ok (acc, none) S else .bad
  | x :: r, acc, S => if lkI l S then match tg x ρ with
    | some ρ1 => match c ρ1 S with
      | .ok true S1 => match el ρ1 S1 with
        | .ok y S2 => compL tg c el ρ l r (acc ++ [y]) S2
        | _ => .bad
      | .ok false S1 => compL tg c el ρ l r acc S1
      | _ => .bad
    | none => .bad
    else .bad
noncomputable def lComp (tg : Tgt) (it : TIt) (c : TB) (el : TV) (vs : List Nat) : TL := fun ρ S => (it ρ S).bind fun l S => compL tg c el (wipeE ρ vs) l l.1 [] S
def bYes : TB := fun _ S => .ok true S
abbrev W0 : WX := fun _ _ _ _ => False
structure TTs (X : Cx) (W : WX) (ifs : List Expr) (c : TB) : Prop where
  pts : PTs X ifs (T_ X W c)
theorem PTs_imp {X : Cx} {ifs : List Expr} {t t' : TT} (h : PTs X ifs t) (w : ∀ σ H Q, t' σ H Q → t σ H Q) : PTs X ifs t' := ⟨fun pins s σ H Q I q => h.run pins s σ H Q I (w σ H Q q)⟩
section
variable {X : Cx} {W : WX}
theorem tts_nil : PTs X [] (T_ X W bYes) := PTs_imp pts_nil fun σ H Q ⟨μ, S, ρ, R, E, p⟩ => p μ H Ext.refl R
theorem tts_one {c : Expr} {tc : TB} (h : PT X c (T_ X W tc)) : PTs X [c] (T_ X W tc) := pts_one h
theorem comp_core {J : It} {μ0 : List Addr} {H0 Hb : Hp} {l : LI} {K : PySem.W.Frag} {cm : Str → Value → Prop} (hK : K = X.K) (hcm : cm = cmX X) (ok : ItOk X.K (cmX X) J μ0 H0 l) {vs gv : List Nat} (hv : ∀ i ∈ gv, i ∈ vs) {t : Tgt} {c : TB} {ev : TV} {σ : L2.St} {ρ : Env'} {S : Store} {Q : VK} {Wq : XK} (E0 : Ext μ0 H0 μ0 H0)
    (R : RS X.K (cmX X) μ0 S H0) (E : RE X.K μ0 H0 ρ σ) {μb : List Addr} (Eb : Ext μb Hb μ0 H0) (h : PostL X.K (cmX X) μb Hb (compL t c ev (wipeE ρ vs) l l.1 [] S) Q Wq) (D : Addr) (hD : H0 D = none) :
    ∃ Wv : Nat → Nat → Hp → Prop, (∃ m, Wv 0 m (upd H0 D (.lst []))) ∧ ∀ i m H, Wv i m H →
      (J.stop i H ∧ Q (.ref D) H) ∨ (J.go i H ∧ ∃ Nx : Hp → Prop, (∀ H', Nx H' → ∃ m', m' < m ∧ Wv (i + 1) m' H') ∧ ∀ x H', J.yld i H x H' → G_ X gv t x (wipe σ vs) H' fun σ2 H2 => wipe σ2 vs = wipe σ vs ∧ T_ X W0 c σ2 H2 fun b H3 =>
        if b = true then E_ X W0 ev σ2 H3 fun y H4 => ∃ acc, H4 D = some (.lst acc) ∧ acc.length < sizeLine ∧ Nx (upd H4 D (.lst (acc ++ [y]))) else Nx H3) := by
  refine ⟨fun i m H => i + m = l.1.length ∧ ∃ μ S acc ws, Ext μ0 H0 μ H ∧ RS X.K (cmX X) μ S H ∧ D ∉ μ ∧ H D = some (.lst ws) ∧ acc.length ≤ i ∧ RVs X.K μ H acc ws ∧ PostL X.K (cmX X) μb Hb (compL t c ev (wipeE ρ vs) l (l.1.drop i) acc S) Q Wq,
    ⟨l.1.length, by omega, μ0, S, [], [], Ext.fresh hD, R.fresh hD, fun hm => R.trk hm hD, upd_same, Nat.le_refl _, .nil, by simpa using h⟩, fun i m H hW => ?_⟩
  obtain ⟨him, μ, S, acc, ws, Ex, R1, hm, hDw, hacc, ra, p⟩ := hW
  have Eρ : RE X.K μ H (wipeE ρ vs) (wipe σ vs) := (E.mono R Ex).wipe vs
  cases hd : l.1.drop i with
  | nil =>
    rw [hd] at p
    unfold compL at p
    split at p
    · rename_i lk
      refine .inl ⟨((ok.step i μ S H Ex R1 lk).1 (List.drop_eq_nil_iff.mp hd)), ?_⟩
      refine p μ H D (Eb.trans Ex) R1 ⟨Eb.none' R hD, hm, ws, hDw, ?_, ra⟩
      have := ok.len
      show acc.length ≤ sizeLine
      omega
    · exact p.elim
  | cons x r =>
    have hx : l.1[i]? = some x := by
      have := List.getElem?_drop (xs := l.1) (i := i) (j := 0)
      rw [hd] at this
      simpa using this.symm
    have hlen : i < l.1.length := (List.getElem?_eq_some_iff.mp hx).1
    have hr : r = l.1.drop (i + 1) := by
      rw [List.drop_add_one_eq_tail_drop, hd]; rfl
    rw [hd] at p
    unfold compL at p
    split at p
    · rename_i lk
      obtain ⟨hgo, hy⟩ := (ok.step i μ S H Ex R1 lk).2 x hx
      refine .inr ⟨hgo, fun H' => i + 1 + (m - 1) = l.1.length ∧ ∃ μ S acc ws, Ext μ0 H0 μ H' ∧ RS X.K (cmX X) μ S H' ∧ D ∉ μ ∧ H' D = some (.lst ws) ∧ acc.length ≤ i + 1 ∧ RVs X.K μ H' acc ws ∧ PostL X.K (cmX X) μb Hb (compL t c ev (wipeE ρ vs) l (l.1.drop (i + 1)) acc S) Q Wq, fun H' hN => ⟨m - 1, by omega, hN⟩, fun v H' hyl => ?_⟩
      obtain ⟨E1, R2, rv⟩ := hy v H' hyl
      cases ht : t x (wipeE ρ vs) with
      | none => rw [ht] at p; exact p.elim
      | some ρ1 =>
        rw [ht] at p
        dsimp only at p
        refine ⟨μ, S, wipeE ρ vs, x, ρ1, R2, Eρ.mono R1 E1, rv, ht, fun σ1 Eσ k1 l1 => ?_⟩
        have hw : wipe σ1 vs = wipe σ vs := by
          rw [wipe_congr (vs := vs) l1 fun i hi => k1 i fun z => hi (hv i z)]
          exact wipe_congr (wipe_length σ vs) fun i hi => wipe_out hi
        refine ⟨hw, μ, S, ρ1, R2, Eσ, ?_⟩
        cases hc : c ρ1 S with
        | bad => rw [hc] at p; exact p.elim
        | exc e S1 => rw [hc] at p; exact p.elim
        | ok b S1 =>
          rw [hc] at p
          intro μ3 H3 E3 R3
          have hm3 : D ∉ μ3 := fun z => by
            rcases E3.new D z with h | h
            · exact hm h
            · rw [E1.kp D _ hDw hm] at h; cases h
          have hD3 : H3 D = some (.lst ws) := E3.kp D _ (E1.kp D _ hDw hm) hm
          have Ex3 : Ext μ0 H0 μ3 H3 := (Ex.trans E1).trans E3
          cases b with
          | false =>
            rw [if_neg (by decide)]
            exact ⟨by omega, μ3, S1, acc, ws, Ex3, R3, hm3, hD3, by omega, (ra.mono R1 E1).mono R2 E3, by rw [← hr]; exact p⟩
          | true =>
            rw [if_pos rfl]
            refine ⟨μ3, S1, ρ1, R3, Eσ.mono R2 E3, ?_⟩
            dsimp only at p
            cases he : ev ρ1 S1 with
            | bad => rw [he] at p; exact p.elim
            | exc e S2 => rw [he] at p; exact p.elim
            | ok y S2 =>
              rw [he] at p
              intro μ4 H4 w E4 R4 rw4
              have hm4 : D ∉ μ4 := fun z => by
                rcases E4.new D z with h | h
                · exact hm3 h
                · rw [hD3] at h; cases h
              have hD4 : H4 D = some (.lst ws) := E4.kp D _ hD3 hm3
              have hn : acc.length < sizeLine := by have := ok.len; omega
              refine ⟨ws, hD4, ?_, by omega, μ4, S2, acc ++ [y], ws ++ [w], (Ex3.trans E4).off hD, R4.off hm4 hD4, hm4, upd_same, by simp; omega, ?_, by rw [← hr]; exact p⟩
              · rw [← ra.length]; exact hn
              · exact RVs.mono2 (Up2.off hD4) (((((ra.mono R1 E1).mono R2 E3).mono R3 E4)).append (.cons rw4 .nil))
    · exact p.elim
theorem lComp_imp {t : Tgt} {it : TIt} {c : TB} {ev : TV} {vs gv : List Nat} (hv : ∀ i ∈ gv, i ∈ vs) {σ : L2.St} {H : Hp} {Q : VK} (h : L_ X W (lComp t it c ev vs) σ H Q) : tLc (I_ X W it) (G_ X gv t) (T_ X W0 c) (E_ X W0 ev) vs σ H Q := by
  obtain ⟨μ, S, ρ, R, E, p⟩ := h
  refine ⟨μ, S, ρ, R, E, ?_⟩
  unfold lComp at p
  cases hr : it ρ S with
  | bad => rw [hr] at p; exact p
  | exc x S1 => rw [hr] at p; exact p
  | ok l S1 =>
    rw [hr] at p
    intro μ1 H1 J E1 R1 ok D hD
    exact comp_core (K := X.K) (cm := cmX X) rfl rfl ok hv Ext.refl R1 (E.mono R E1) E1 p D hD
theorem sl_comp {elt tg iter : Expr} {ifs : List Expr} {scope : Scope} {own : List (Str × Nat)} {pos : Pos} {it : TIt} {t : Tgt} {c : TB} {ev : TV} {gv : List Nat} (hc : X.calm = true) (hN : X.N.Nodup) (hi : PI X tg iter (I_ X W it)) (ok : BlkOk X.N X.env.scope scope own)
    (hg : ∀ (s : Shared) (H : Hp) (C : Addr) (cl : List (Str × Addr)) (fp : List Addr), PG (X.blk s H scope (compEnvC scope cl C X.env) fp) tg (G_ (X.blk s H scope (compEnvC scope cl C X.env) fp) gv t)) (ht : ∀ (s : Shared) (H : Hp) (C : Addr) (cl : List (Str × Addr)) (fp : List Addr), PTs (X.blk s H scope (compEnvC scope cl C X.env) fp) ifs (T_ (X.blk s H scope (compEnvC scope cl C X.env) fp) W0 c))
    (he : ∀ (s : Shared) (H : Hp) (C : Addr) (cl : List (Str × Addr)) (fp : List Addr), PE (X.blk s H scope (compEnvC scope cl C X.env) fp) elt (E_ (X.blk s H scope (compEnvC scope cl C X.env) fp) W0 ev)) (hv : ∀ i ∈ gv, i ∈ own.map (·.2) := by decide) (hs : ∀ x, foldedSetIterable iter X.env x = pure x := by intro _; rfl) :
    PE X (.ListComp elt [⟨tg, iter, ifs, 0⟩] scope pos) (L_ X W (lComp t it c ev (own.map (·.2)))) :=
  PE.imp (pe_lc (g := G_ X gv t) (tt := T_ X W0 c) (te := E_ X W0 ev) hc hN hi ok hg ht he hs) fun _ _ _ h => lComp_imp hv h
theorem vNew_imp {el : TL} {σ : L2.St} {H : Hp} {Q : VK} (h : E_ X W (vNew el) σ H Q) : L_ X W el σ H Q := by
  obtain ⟨μ, S, ρ, R, E, p⟩ := h
  refine ⟨μ, S, ρ, R, E, PostL.step (P := fun μ H r => Post X.K (cmX X) μ H r Q (atσ W σ)) p (fun _ _ h => h) (fun h => h) fun l S1 μ1 H1 a E1 R1 rl p => ?_⟩
  unfold RL at rl
  split at rl
  · rename_i hn
    rw [hn] at p
    obtain ⟨h0, hm, vs, ha, hl, r⟩ := rl
    obtain ⟨E2, R2⟩ := adopt (o := .lst l.1) R1 hm ⟨vs, ha, hl, r⟩ E1 h0
    refine p _ _ _ E2 R2 (.ref ?_)
    rw [List.getElem?_append_right (by rw [R1.len]; exact Nat.le_refl _), R1.len, Nat.sub_self]
    rfl
  · rename_i j hn
    rw [hn] at p
    exact p _ _ _ E1 R1 (.ref rl.1)
theorem sSet_imp {i : Nat} {ev : TV} {σ : L2.St} {H : Hp} {D : Ends} (h : S_ X W (sSet i ev) D σ H) : E_ X W ev σ H fun v H1 => D.nx (σ.set i (some v)) H1 := by
  obtain ⟨μ, S, ρ, R, E, p⟩ := h
  exact ⟨μ, S, ρ, R, E, sr_step E R p fun x S1 μ1 H1 v E1 R1 rv p => p μ1 H1 _ E1 R1 ((E.mono R E1).set rv i)⟩
/-- name = [..] on one line, the name a local -/
theorem ss_setLc {i : Nat} {y : Str} {py : Pos} {elt tg iter : Expr} {ifs : List Expr} {scope : Scope} {own : List (Str × Nat)} {pos spos : Pos} {it : TIt} {t : Tgt} {c : TB} {ev : TV} {gv : List Nat} (hc : X.calm = true) (hN : X.N.Nodup) (hy : X.N[i]? = some y) (hyl : X.env.scope.names.lookup y = some .local)
    (hsw : swapsWith (.ListComp elt [⟨tg, iter, ifs, 0⟩] scope pos) (some (.Name y py)) spos.line X.env = pure true) (hi : PI X tg iter (I_ X W it)) (ok : BlkOk X.N X.env.scope scope own)
    (hg : ∀ (s : Shared) (H : Hp) (C : Addr) (cl : List (Str × Addr)) (fp : List Addr), PG (X.blk s H scope (compEnvC scope cl C X.env) fp) tg (G_ (X.blk s H scope (compEnvC scope cl C X.env) fp) gv t)) (ht : ∀ (s : Shared) (H : Hp) (C : Addr) (cl : List (Str × Addr)) (fp : List Addr), PTs (X.blk s H scope (compEnvC scope cl C X.env) fp) ifs (T_ (X.blk s H scope (compEnvC scope cl C X.env) fp) W0 c))
    (he : ∀ (s : Shared) (H : Hp) (C : Addr) (cl : List (Str × Addr)) (fp : List Addr), PE (X.blk s H scope (compEnvC scope cl C X.env) fp) elt (E_ (X.blk s H scope (compEnvC scope cl C X.env) fp) W0 ev)) (hv : ∀ i ∈ gv, i ∈ own.map (·.2) := by decide) (hs : ∀ x, foldedSetIterable iter X.env x = pure x := by intro _; rfl) :
    PS X (.Assign [.Name y py] (.ListComp elt [⟨tg, iter, ifs, 0⟩] scope pos) spos) (S_ X W (sSet i (vNew (lComp t it c ev (own.map (·.2)))))) :=
  PS.imp (ps_setLc (g := G_ X gv t) (tt := T_ X W0 c) (te := E_ X W0 ev) hc hN hy hyl hsw hi ok hg ht he hs) fun _ _ _ h => lComp_imp hv (vNew_imp (sSet_imp h))
end
/-! ### what a function leaves: the store without what it threw away -/
mutual
def PV.low (n : Nat) : PV → Bool
  | .ref i => decide (i < n)
  | .tup xs => PV.lows n xs
  | .frl xs => PV.lows n xs
  | _ => true
def PV.lows (n : Nat) : List PV → Bool
  | [] => true
  | x :: xs => PV.low n x && PV.lows n xs
end
def lowK {κ : Type} (n : Nat) : List (κ × PV) → Bool
  | [] => true
  | p :: r => p.2.low n && lowK n r
def PObj.low (n : Nat) : PObj → Bool
  | .lst xs => PV.lows n xs
  | .dic kvs => lowK n kvs
  | .ins _ fs => lowK n fs
section
variable {K : PySem.W.Frag} {cm : Str → Value → Prop} {μ μ' μ'' : List Addr} {H H' : Hp} {S S' : Store}
mutual
theorem RV.dom : ∀ {x : PV} {v : V}, RV K μ H x v → x.low μ.length = true
  | _, _, .non => rfl
  | _, _, .bl b => rfl
  | _, _, .int i => rfl
  | _, _, .str x h => rfl
  | _, _, .tup _ _ r => by simp only [PV.low]; exact RVs.dom r
  | _, _, .frl _ _ r => by simp only [PV.low]; exact RVs.dom r
  | _, _, .ref h => by simp only [PV.low, decide_eq_true_eq]; exact (List.getElem?_eq_some_iff.mp h).1
theorem RVs.dom : ∀ {xs : List PV} {vs : List V}, RVs K μ H xs vs → PV.lows μ.length xs = true
  | _, _, .nil => rfl
  | _, _, .cons h t => by simp only [PV.lows, RV.dom h, RVs.dom t, Bool.and_self]
end
theorem RKs.dom {κ : Type} {xs : List (κ × PV)} {vs : List (κ × V)} (h : RKs K μ H xs vs) : lowK μ.length xs = true := by
  induction h with
  | nil => rfl
  | cons h _ ih => simp only [lowK, RV.dom h.2, ih, Bool.and_self]
theorem RO.dom {a : Addr} {o : PObj} (h : RO K cm μ H a o) : o.low μ.length = true := by
  cases o with
  | lst xs => obtain ⟨ws, e1, l, r⟩ := h; exact r.dom
  | dic xs => obtain ⟨ws, e1, l, r⟩ := h; exact r.dom
  | ins C fs => obtain ⟨Ca, dx, ws, c, e1, l, r⟩ := h; exact r.dom
mutual
theorem RV.cut {n : Nat} (hp : ∀ (i : Nat) (a : Addr), i < n → μ'[i]? = some a → μ''[i]? = some a) : ∀ {x : PV} {v : V}, RV K μ' H x v → x.low n = true → RV K μ'' H x v
  | _, _, .non, _ => .non
  | _, _, .bl b, _ => .bl b
  | _, _, .int i, _ => .int i
  | _, _, .str x h, _ => .str x h
  | _, _, .tup s l r, b => .tup s l (RVs.cut' hp r b)
  | _, _, .frl s l r, b => .frl s l (RVs.cut' hp r b)
  | _, _, .ref h, b => .ref (hp _ _ (by simpa [PV.low] using b) h)
theorem RVs.cut' {n : Nat} (hp : ∀ (i : Nat) (a : Addr), i < n → μ'[i]? = some a → μ''[i]? = some a) : ∀ {xs : List PV} {vs : List V}, RVs K μ' H xs vs → PV.lows n xs = true → RVs K μ'' H xs vs
  | _, _, .nil, _ => .nil
  | _, _, .cons h t, b => by
    simp only [PV.lows, Bool.and_eq_true] at b
    exact .cons (RV.cut hp h b.1) (RVs.cut' hp t b.2)
end
theorem RKs.cut {κ : Type} {n : Nat} (hp : ∀ (i : Nat) (a : Addr), i < n → μ'[i]? = some a → μ''[i]? = some a) {xs : List (κ × PV)} {vs : List (κ × V)} (h : RKs K μ' H xs vs) (b : lowK n xs = true) : RKs K μ'' H xs vs := by
  induction h with
  | nil => exact .nil
  | cons h _ ih =>
    simp only [lowK, Bool.and_eq_true] at b
    exact .cons ⟨h.1, h.2.cut hp b.1⟩ (ih b.2)
theorem RO.cut {n : Nat} (hp : ∀ (i : Nat) (a : Addr), i < n → μ'[i]? = some a → μ''[i]? = some a) {a : Addr} {o : PObj} (h : RO K cm μ' H a o) (b : o.low n = true) : RO K cm μ'' H a o := by
  cases o with
  | lst xs => obtain ⟨ws, e1, l, r⟩ := h; exact ⟨ws, e1, l, r.cut' hp b⟩
  | dic xs => obtain ⟨ws, e1, l, r⟩ := h; exact ⟨ws, e1, l, r.cut hp b⟩
  | ins C fs => obtain ⟨Ca, dx, ws, c, e1, l, r⟩ := h; exact ⟨Ca, dx, ws, c, e1, l, r.cut hp b⟩
/-- the things that stood are as they were, or hold nothing newer -/
def gcOk (S0 S : Store) : Prop := S0.length ≤ S.length ∧ ∀ i, i < S0.length → S[i]? = S0[i]? ∨ ∃ o, S[i]? = some o ∧ o.low S0.length = true
theorem gc_take (R0 : RS K cm μ S H) (E : Ext μ H μ' H') (R : RS K cm μ' S' H') (g : gcOk S S') : Ext μ H (μ'.take S.length) H' ∧ RS K cm (μ'.take S.length) (S'.take S.length) H' ∧ (∀ (i : Nat) (a : Addr), i < S.length → μ'[i]? = some a → (μ'.take S.length)[i]? = some a) := by
  have hp : ∀ (i : Nat) (a : Addr), i < S.length → μ'[i]? = some a → (μ'.take S.length)[i]? = some a := fun i a hi h => by rw [List.getElem?_take_of_lt hi]; exact h
  refine ⟨⟨fun i a h => hp i a ?_ (E.pre i a h), fun b hb => E.new b (List.mem_of_mem_take hb), E.kp⟩, ⟨by simp [R.len], ?_, fun i a o h e => ?_⟩, hp⟩
  · rw [← R0.len]; exact (List.getElem?_eq_some_iff.mp h).1
  · exact R.nd.sublist (List.take_sublist _ _)
  · have hi : i < S.length := by
      have := (List.getElem?_eq_some_iff.mp h).1
      simp at this; omega
    rw [List.getElem?_take_of_lt hi] at h e
    refine (R.ob i a o h e).cut hp ?_
    rcases g.2 i hi with g | ⟨o', g, b⟩
    · rw [e] at g
      have hS : i < μ.length := by rw [R0.len]; exact hi
      have := (R0.ob i μ[i] o (List.getElem?_eq_getElem hS) g.symm).dom
      rw [R0.len] at this
      exact this
    · rw [e] at g; cases g; exact b
theorem gc_keep (R0 : RS K cm μ S H) (E : Ext μ H μ' H') (R : RS K cm μ' S' H') (g : gcOk S S') {j : Nat} {ad : Addr} {ob : PObj} (hj : S.length ≤ j) (ha : μ'[j]? = some ad) (ho : S'[j]? = some ob) (hb : ob.low S.length = true) :
    Ext μ H (μ'.take S.length ++ [ad]) H' ∧ RS K cm (μ'.take S.length ++ [ad]) (S'.take S.length ++ [ob]) H' ∧ (μ'.take S.length ++ [ad])[S.length]? = some ad := by
  obtain ⟨E1, R1, hp⟩ := gc_take R0 E R g
  have hlen : (μ'.take S.length).length = S.length := by
    have := g.1
    simp [R.len]; omega
  have hm : ad ∉ μ'.take S.length := fun h => by
    obtain ⟨i, hi⟩ := List.mem_iff_getElem?.mp h
    have h1 : i < S.length := by
      have := (List.getElem?_eq_some_iff.mp hi).1
      omega
    rw [List.getElem?_take_of_lt h1] at hi
    have := nd_ix R.nd hi ha
    omega
  have hr := (R.ob j ad ob ha ho).cut hp hb
  refine ⟨⟨fun i a h => ?_, fun b hb' => ?_, E.kp⟩, ⟨by simp [hlen]; have := g.1; omega, ?_, fun i a o h e => ?_⟩, ?_⟩
  · have := E1.pre i a h
    rw [List.getElem?_append_left (List.getElem?_eq_some_iff.mp this).1]; exact this
  · rcases List.mem_append.mp hb' with h | h
    · exact E1.new b h
    · rw [List.mem_singleton.mp h]; exact E.new ad (List.mem_of_getElem? ha)
  · rw [List.nodup_append]
    exact ⟨R1.nd, by simp, fun x hx y hy => by rw [List.mem_singleton.mp hy]; rintro rfl; exact hm hx⟩
  · have up : Up2 (μ'.take S.length) H' (μ'.take S.length ++ [ad]) H' := ⟨fun i a h => by rw [List.getElem?_append_left (List.getElem?_eq_some_iff.mp h).1]; exact h, fun _ _ h => h, fun _ _ _ h => h⟩
    by_cases hi : i < S.length
    · rw [List.getElem?_append_left (by rw [hlen]; exact hi)] at h
      rw [List.getElem?_append_left (by have := R1.len; omega)] at e
      exact (R1.ob i a o h e).mono2 up rfl
    · have h1 := (List.getElem?_eq_some_iff.mp h).1
      simp only [List.length_append, hlen, List.length_singleton] at h1
      have : i = S.length := by omega
      subst this
      rw [List.getElem?_append_right (by omega), hlen, Nat.sub_self] at h
      have hl2 : (S'.take S.length).length = S.length := by have := R1.len; omega
      rw [List.getElem?_append_right (by omega), hl2, Nat.sub_self] at e
      simp at h e
      subst h e
      exact hr.mono2 up rfl
  · rw [List.getElem?_append_right (by omega), hlen, Nat.sub_self]; rfl
open Classical in
noncomputable def gcV (S0 : Store) (v : PV) (S : Store) : Res PV :=
  if gcOk S0 S then
    if v.low S0.length = true then .ok v (S.take S0.length)
    else match v with
      | .ref j => match S[j]? with
        | some o => if S0.length ≤ j ∧ o.low S0.length = true then .ok (.ref S0.length) (S.take S0.length ++ [o]) else .ok v S
        | none => .ok v S
      | _ => .ok v S
  else .ok v S
open Classical in
noncomputable def gcX (S0 : Store) (e : PX) (S : Store) : Res PV :=
  if gcOk S0 S ∧ lowK S0.length e.fd = true then .exc e (S.take S0.length) else .exc e S
noncomputable def fnV (np nl : Nat) (b : TSt) : List PV → Store → Res PV := fun args S =>
  if args.length = np then match b (args.map some ++ List.replicate (nl - np) none) S with
    | .ret v S' => gcV S v S'
    | .nx _ S' => gcV S .non S'
    | .exc e _ S' => gcX S e S'
    | _ => .bad
  else .bad
theorem gcV_ok {v : PV} {u : V} {Q : VK} {Wq : XK} (R0 : RS K cm μ S H) (E : Ext μ H μ' H') (R : RS K cm μ' S' H') (rv : RV K μ' H' v u) (h : Post K cm μ H (gcV S v S') Q Wq) : Q u H' := by
  unfold gcV at h
  split at h
  · rename_i g
    split at h
    · rename_i hb
      obtain ⟨E1, R1, hp⟩ := gc_take R0 E R g
      exact h _ _ _ E1 R1 (rv.cut hp hb)
    · split at h
      · rename_i j _
        split at h
        · rename_i o ho
          split at h
          · rename_i hc
            cases rv with
            | ref ha =>
              obtain ⟨E1, R1, hl⟩ := gc_keep R0 E R g hc.1 ha ho hc.2
              exact h _ _ _ E1 R1 (.ref hl)
          · exact h _ _ _ E R rv
        · exact h _ _ _ E R rv
      · exact h _ _ _ E R rv
  · exact h _ _ _ E R rv
theorem gcX_ok {e : PX} {c : Value} {d : Option Addr} {Q : VK} {Wq : XK} (R0 : RS K cm μ S H) (E : Ext μ H μ' H') (R : RS K cm μ' S' H') (rx : RX K cm μ' H' e c d) (h : Post K cm μ H (gcX S e S') Q Wq) : Wq c d H' := by
  unfold gcX at h
  split at h
  · rename_i g
    obtain ⟨E1, R1, hp⟩ := gc_take R0 E R g.1
    refine h _ _ _ _ E1 R1 ⟨rx.1, ?_⟩
    rcases rx.2 with q | ⟨da, fv, q1, q2, q3⟩
    · exact .inl q
    · exact .inr ⟨da, fv, q1, q2, q3.cut hp g.2⟩
  · exact h _ _ _ _ E R rx
end
/-! ### a def, by its body -/
def spF (K : PySem.W.Frag) (cm : Str → Value → Prop) (n : Nat) (F : List PV → Store → Res PV) : Sp := fun vs H Q E => vs.length = n ∧ ∃ μ S args, RS K cm μ S H ∧ RVs K μ H args vs ∧ Post K cm μ H (F args S) Q E
abbrev WEx (E : XK) : WX := fun c d _ H => E c d H
theorem RE.start {K : PySem.W.Frag} {μ : List Addr} {H : Hp} {args : List PV} {vs : List V} (r : RVs K μ H args vs) (n : Nat) : RE K μ H (args.map some ++ List.replicate n none) (vs.map some ++ List.replicate n none) := by
  have hl := r.length
  refine ⟨by simp [hl], fun i x e => ?_⟩
  by_cases hi : i < args.length
  · rw [List.getElem?_append_left (by simpa using hi)] at e
    rw [List.getElem?_map] at e
    cases h : args[i]? with
    | none => rw [h] at e; cases e
    | some y =>
      rw [h] at e
      cases e
      obtain ⟨v, hv, rv⟩ := r.get h
      refine ⟨v, ?_, rv⟩
      rw [List.getElem?_append_left (by simp; omega), List.getElem?_map, hv]; rfl
  · rw [List.getElem?_append_right (by simpa using hi)] at e
    have := List.mem_of_getElem? e
    rw [List.mem_replicate] at this
    cases this.2
section
variable {P : Program} {w : World} {K : PySem.W.Frag} {mg : Str → Option Value} {base : Heap}
abbrev cmM (mg : Str → Option Value) : Str → Value → Prop := fun n c => mg n = some c
theorem fn_ok {x qual : Str} {st : Stmt} {f : Addr} {fd : FuncData} {N ps : List Str} {k : Nat} (F : FunD K x qual (defArgs st) (defBody st) (defScope st) [] [] f fd) (Sc : FnScope N ps (defScope st)) (b : TSt)
    (hb : ∀ (cdv : Value) (A : Around) (outer : List Env) (s : Shared) (H : Hp) (E : XK), Room k (A.deeper (envOfC qual (defScope st) s.heap.objs.size f cdv)) →
      Takes (cxOf (L2.CX P w) P w K mg base N qual (defScope st) f cdv A outer s H E) (WEx E) →
      PassesOwn (model P w) (A.deeper (envOfC qual (defScope st) s.heap.objs.size f cdv)) (envOfC qual (defScope st) s.heap.objs.size f cdv) (cxOf (L2.CX P w) P w K mg base N qual (defScope st) f cdv A outer s H E).xe →
      PSs (cxOf (L2.CX P w) P w K mg base N qual (defScope st) f cdv A outer s H E) (defBody st) (S_ (cxOf (L2.CX P w) P w K mg base N qual (defScope st) f cdv A outer s H E) (WEx E) b)) :
    FnOk P w K mg base (L2.CX P w) (k + 1) f fd ps (spF K (cmM mg) ps.length (fnV ps.length N.length b)) := by
  refine F.ok (CX := L2.CX P w) Sc (fun vs H Q E h => h.1) fun cdv A outer s H vs Q E hr h => ?_
  refine ⟨_, hb cdv A outer s H E hr (takes_of rfl rfl rfl rfl) (passes_of rfl), ?_⟩
  obtain ⟨hl, μ, S, args, R, rv, p⟩ := h
  have hal : args.length = ps.length := by rw [rv.length]; exact hl
  refine ⟨μ, S, args.map some ++ List.replicate (N.length - ps.length) none, R, ?_, ?_⟩
  · have := RE.start rv (N.length - ps.length)
    unfold L2.start
    rw [hl]
    exact this
  · unfold fnV at p
    rw [if_pos hal] at p
    cases hbd : b (args.map some ++ List.replicate (N.length - ps.length) none) S with
    | ret v S' => rw [hbd] at p; exact fun μ' H' u E1 R1 r1 => gcV_ok R E1 R1 r1 p
    | nx ρ S' => rw [hbd] at p; exact fun μ' H' σ' E1 R1 _ => gcV_ok R E1 R1 .non p
    | exc e ρ S' => rw [hbd] at p; exact fun μ' H' σ' c d E1 R1 _ rx => gcX_ok R E1 R1 rx p
    | brk ρ S' => rw [hbd] at p; exact p.elim
    | cnt ρ S' => rw [hbd] at p; exact p.elim
    | bad => rw [hbd] at p; exact p.elim
end
/-! ### the call of a def -/
section
variable {X : Cx} {W : WX} {k : Nat} {f : Addr} {fd : FuncData} {ps : List Str} {F : List PV → Store → Res PV} {x : Str} {p pos : Pos} {e : Expr} {es : List Expr} {evs : TVs}
def vApp (F : List PV → Store → Res PV) (es : TVs) : TV := fun ρ S => (es ρ S).bind fun xs S => F xs S
def vApp0 (F : List PV → Store → Res PV) : TV := fun ρ S => match F [] S with
  | .ok v S => .ok v S
  | _ => .bad
theorem sv_call (hF : FnOk X.prog X.w X.K X.mg X.base (L2.CX X.prog X.w) k f fd ps (spF X.K (cmX X) ps.length F)) (hr : Room k X.A) (hg : Gl X x) (hm : X.mg x = some (.ref f)) (hk : PySem.W.keepIn X.K (.ref f) = true) (hb : Binds X.K fd ps []) (hx : ∀ σ, PassesAt (L2.CX X.prog X.w) X σ (WE W σ))
    (hn : ∀ ρ S xs S', evs ρ S = .ok xs S' → xs.length = ps.length) (ha : PA X (e :: es) (A_ X W evs)) (hdb : (x == ("__debug__" : Str)) = false := by decide) (he : starEach (e :: es) X.env = (false, eval e X.env) :: starEach es X.env := by rfl) (hpl : (backTo pos (starEach es X.env)).any (·.1) = false := by rfl) :
    PE X (.Call (.Name x p) (e :: es) [] pos) (E_ X W (vApp F evs)) := by
  refine PE.imp (pe_callS (E := WE W) hF hr hg hm hk hb hx ha hdb he hpl) fun σ H Q h => ?_
  obtain ⟨μ, S, ρ, R, E, q⟩ := h
  refine ⟨μ, S, ρ, R, E, ?_⟩
  unfold vApp at q
  cases hev : evs ρ S with
  | bad => rw [hev] at q; exact q
  | exc e S1 => rw [hev] at q; exact q
  | ok xs S1 =>
    rw [hev] at q
    exact fun μ1 H1 vs E1 R1 rv => ⟨by rw [← rv.length]; exact hn _ _ _ _ hev, μ1, S1, xs, R1, rv, Post.ext E1 q⟩
theorem sv_call0 (hF : FnOk X.prog X.w X.K X.mg X.base (L2.CX X.prog X.w) k f fd [] (spF X.K (cmX X) 0 F)) (hr : Room k X.A) (hg : Gl X x) (hm : X.mg x = some (.ref f)) (hk : PySem.W.keepIn X.K (.ref f) = true) (hb : Binds X.K fd [] []) (hdb : (x == ("__debug__" : Str)) = false := by decide) :
    PE X (.Call (.Name x p) [] [] pos) (E_ X W (vApp0 F)) := by
  refine PE.imp (pe_call0 (E := E0) hF hr hg hm hk hb .nil passL hdb) fun σ H Q h => ?_
  obtain ⟨μ, S, ρ, R, E, q⟩ := h
  refine ⟨rfl, μ, S, [], R, .nil, ?_⟩
  unfold vApp0 at q
  cases hF' : F [] S with
  | bad => rw [hF'] at q; exact q
  | exc e S1 => rw [hF'] at q; exact q.elim
  | ok v S1 => rw [hF'] at q; exact q
theorem pass_take (tk : Takes X W) : ∀ σ, PassesAt (L2.CX X.prog X.w) X σ (WE W σ) := fun σ => passAt tk σ
theorem pass_none : ∀ σ, PassesAt (L2.CX X.prog X.w) X σ (WE W0 σ) := fun σ pins H s e s' I h => by
  obtain ⟨_, _, _, _, _, _, _, _, _, _, _, _, q⟩ := h
  exact q.elim
end
end Ev

/-! Fw8: lists joined, methods of lists and texts, dicts written out, constants of the module. -/
namespace Ev
open PySem PySem.Spec PyProof.Rows L2
section
variable {X : Cx} {W : WX} {a b e o : Expr} {es : List Expr} {ea eb eo : TV} {la lb el : TL} {evs : TVs} {pos apos cpos : Pos}
/-- a list that is held, as a list -/
def lVal (e : TV) : TL := fun ρ S => (e ρ S).bind fun x S => match x with
  | .ref j => match S[j]? with
    | some (.lst xs) => .ok (xs, some j) S
    | _ => .bad
  | _ => .bad
theorem sl_val (h : PE X e (E_ X W ea)) : PE X e (L_ X W (lVal ea)) := by
  refine PE.imp h fun σ H Q h => ?_
  obtain ⟨μ, S, ρ, R, E, p⟩ := h
  refine ⟨μ, S, ρ, R, E, Post.step (P := fun μ H r => PostL X.K (cmX X) μ H r Q (atσ W σ)) p (fun _ _ h => h) (fun h => h) fun x S1 μ1 H1 v E1 R1 rv p => ?_⟩
  split at p
  · rename_i j
    split at p
    · rename_i xs hS
      cases rv with
      | ref hj => exact p μ1 H1 _ E1 R1 ⟨hj, hS⟩
    · exact p.elim
  · exact p.elim
/-- list + list -/
noncomputable def lCat (a b : TL) : TL := fun ρ S => (a ρ S).bind fun l S => (b ρ S).bind fun m S => if lkOk l S ∧ l.1.length + m.1.length ≤ sizeLine then .ok (l.1 ++ m.1, none) S else .bad
/-- a list that is as it was, still there -/
theorem RL.keep {K : PySem.W.Frag} {cm : Str → Value → Prop} {μ μ' : List Addr} {S S' : Store} {H0 H H' : Hp} {l : LL} {a : Addr} (R : RS K cm μ S H) (R' : RS K cm μ' S' H') (E : Ext μ H μ' H') (h : RL K H0 μ S H l a) (lk : lkOk l S') :
    ∃ vs, H' a = some (.lst vs) ∧ l.1.length ≤ sizeLine ∧ RVs K μ' H' l.1 vs := by
  unfold RL at h
  unfold lkOk at lk
  cases hl : l.2 with
  | none =>
    rw [hl] at h
    obtain ⟨_, hm, vs, h1, l1, r⟩ := h
    exact ⟨vs, E.kp _ _ h1 hm, l1, r.mono R E⟩
  | some j =>
    rw [hl] at h lk
    exact R'.ob j a _ (E.pre _ _ h.1) lk
theorem sl_cat (ha : PE X a (L_ X W la)) (hb : PE X b (L_ X W lb)) : PE X (.BinOp a .Add b pos) (L_ X W (lCat la lb)) := by
  refine PE.imp (pe_op op_cat ha hb) fun σ H Q h => ?_
  obtain ⟨μ, S, ρ, R, E, p⟩ := h
  refine ⟨μ, S, ρ, R, E, PostL.step (P := fun μ H r => PostL X.K (cmX X) μ H r Q (atσ W σ)) p (fun _ _ h => h) (fun h => h) fun l S1 μ1 H1 ad E1 R1 rl p => ?_⟩
  refine ⟨μ1, S1, ρ, R1, E.mono R E1, PostL.step (P := fun μ H r => PostL X.K (cmX X) μ H r Q (atσ W σ)) (p.ext E1) (fun _ _ h => h) (fun h => h) fun m S2 μ2 H2 bd E2 R2 rm p => ?_⟩
  split at p
  · rename_i hc
    obtain ⟨vs, h1, l1, r1⟩ := rl.keep R1 R2 E2 hc.1
    obtain ⟨ws, h2, l2, r2⟩ := rm.lst R2
    refine ⟨ad, bd, vs, ws, rfl, rfl, h1, h2, by rw [← r1.length, ← r2.length]; exact hc.2, fun q hq => ?_⟩
    exact fresh_L E2 R2 p hq (r1.append r2) (by rw [List.length_append]; exact hc.2)
  · exact p.elim
/-! ### methods of lists -/
/-- o.m(..) of a list of the store: what it gives, what the list is then -/
def vLm (f : List PV → List PV → Option (PV × List PV)) (o : TV) (es : TVs) : TV := fun ρ S => (o ρ S).bind fun x S => match x with
  | .ref j => match S[j]? with
    | some (.lst _) => (es ρ S).bind fun ys S => match S[j]? with
      | some (.lst xs) => match f xs ys with
        | some (r, zs) => .ok r (S.set j (.lst zs))
        | none => .bad
      | _ => .bad
    | _ => .bad
  | _ => .bad
def rLm (K : PySem.W.Frag) (cm : Str → Value → Prop) (f : List PV → List PV → Option (PV × List PV)) : V → List V → Hp → VK → Prop := fun v ws H Q => ∃ μ S j a xs ys r zs, RS K cm μ S H ∧ v = .ref a ∧ μ[j]? = some a ∧ S[j]? = some (.lst xs) ∧ RVs K μ H ys ws ∧ f xs ys = some (r, zs) ∧
  ∀ H' u, Ext μ H μ H' → RS K cm μ (S.set j (.lst zs)) H' → RV K μ H' r u → Q u H'
theorem vLm_imp {f : List PV → List PV → Option (PV × List PV)} {σ : L2.St} {H : Hp} {Q : VK} (h : E_ X W (vLm f eo evs) σ H Q) : tBM X.K "list" (rLm X.K (cmX X) f) (E_ X W eo) (A_ X W evs) σ H Q := by
  obtain ⟨μ, S, ρ, R, E, p⟩ := h
  refine ⟨μ, S, ρ, R, E, Post.step (P := fun μ H r => Post X.K (cmX X) μ H r Q (atσ W σ)) p (fun _ _ h => h) (fun h => h) fun x S1 μ1 H1 v E1 R1 rv p => ?_⟩
  split at p
  · rename_i j
    split at p
    · rename_i xs0 hS0
      cases rv with
      | @ref _ ad hj =>
        obtain ⟨vs0, h0, _, _⟩ := R1.ob j ad _ hj hS0
        refine ⟨.inl ⟨rfl, vs0, SqL.of h0⟩, μ1, S1, ρ, R1, E.mono R E1, PostA.step (P := fun μ H r => Post X.K (cmX X) μ H r Q (atσ W σ)) (Post.ext E1 p) (fun _ _ h => h) (fun h => h) fun ys S2 μ2 H2 ws E2 R2 rvs p => ?_⟩
        split at p
        · rename_i xs hS
          split at p
          · rename_i r zs hf
            exact ⟨μ2, S2, j, ad, xs, ys, r, zs, R2, rfl, E2.pre _ _ hj, hS, rvs, hf, fun H' u E3 R3 r3 => p μ2 H' u (E2.trans E3) R3 r3⟩
          · exact p.elim
        · exact p.elim
    · exact p.elim
  · exact p.elim
theorem sv_lm {name : Str} {id : String} {f : List PV → List PV → Option (PV × List PV)} (slot : Slot "list" name id) (hty : typeOf (.builtin id) = pure (.type "method_descriptor")) (hm : MtR X id (rLm X.K (cmX X) f)) (ho : PE X o (E_ X W eo)) (ha : PA X (e :: es) (A_ X W evs))
    (hbase : attributeBase o name X.env (eval o X.env) = eval o X.env := by rfl)
    (hfew : ((backTo cpos (starEach (e :: es) X.env)).all (fun x => !x.1) && (backToKw cpos (keywordEach [] X.env)).all (fun x => x.1.isSome)
      && decide ((e :: es).length + ([] : List Keyword).length + (if ([] : List Keyword).isEmpty then 0 else 1) < 30)) = true := by rfl)
    (hline : (apos.endLine == cpos.line) = true := by rfl) (hs : starEach (e :: es) X.env = (false, eval e X.env) :: starEach es X.env := by rfl) (hplain : (backTo cpos (starEach es X.env)).any (·.1) = false := by rfl) :
    PE X (.Call (.Attribute o name apos) (e :: es) [] cpos) (E_ X W (vLm f eo evs)) :=
  PE.imp (pe_bm PySem.F.plainAttrs_list slot hty hm ho ha hbase hfew hline hs hplain) fun _ _ _ h => vLm_imp h
theorem sv_lm0 {name : Str} {id : String} {f : List PV → List PV → Option (PV × List PV)} (slot : Slot "list" name id) (hty : typeOf (.builtin id) = pure (.type "method_descriptor")) (hm : MtR X id (rLm X.K (cmX X) f)) (ho : PE X o (E_ X W eo))
    (hbase : attributeBase o name X.env (eval o X.env) = eval o X.env := by rfl) (hline : (apos.endLine == cpos.line) = true := by rfl) :
    PE X (.Call (.Attribute o name apos) [] [] cpos) (E_ X W (vLm f eo vsNil)) := by
  refine PE.imp (pe_bm0 PySem.F.plainAttrs_list slot hty hm ho hbase hline) fun σ H Q h => ?_
  obtain ⟨μ, S, ρ, R, E, p⟩ := h
  refine ⟨μ, S, ρ, R, E, Post.step (P := fun μ H r => Post X.K (cmX X) μ H r Q (atσ W σ)) p (fun _ _ h => h) (fun h => h) fun x S1 μ1 H1 v E1 R1 rv p => ?_⟩
  split at p
  · rename_i j
    split at p
    · rename_i xs hS
      cases rv with
      | @ref _ ad hj =>
        obtain ⟨vs0, h0, _, _⟩ := R1.ob j ad _ hj hS
        refine ⟨.inl ⟨rfl, vs0, SqL.of h0⟩, ?_⟩
        simp only [vsNil, bind_ok, hS] at p
        split at p
        · rename_i r zs hf
          exact ⟨μ1, S1, j, ad, xs, [], r, zs, R1, rfl, hj, hS, .nil, hf, fun H' u E3 R3 r3 => p μ1 H' u (E1.trans E3) R3 r3⟩
        · exact p.elim
    · exact p.elim
  · exact p.elim
def mAppend (xs ys : List PV) : Option (PV × List PV) := match ys with
  | [y] => if xs.length < sizeLine then some (.non, xs ++ [y]) else none
  | _ => none
theorem ms_append : MtR X "list.append" (rLm X.K (cmX X) mAppend) := by
  intro pins s σ H x vs v us Q I rx rv h
  obtain ⟨μ, S, j, a, xs, ys, r, zs, R, rfl, hj, hS, ry, hf, q⟩ := h
  unfold mAppend at hf
  split at hf
  · split at hf
    · rename_i y hl
      cases hf
      obtain ⟨w, rfl, r1⟩ := ry.one
      obtain ⟨vs0, h0, _, r0⟩ := R.ob j a _ hj hS
      refine mt_append pins s σ H _ _ v us Q I rx rv ⟨a, vs0, w, rfl, rfl, h0, by rw [← r0.length]; exact hl, ?_⟩
      exact q _ _ (Ext.put hj) (R.put hj ⟨_, upd_same, by simp; omega, RVs.mono R (Ext.put hj) (r0.append (.cons r1 .nil))⟩) .non
    · cases hf
  · cases hf
def mPop (xs ys : List PV) : Option (PV × List PV) := match ys with
  | [] => match xs[xs.length - 1]? with
    | some y => some (y, xs.dropLast)
    | none => none
  | [.int i] => match ixN xs.length i with
    | some k => match xs[k]? with
      | some y => if -(2 ^ 63) ≤ i ∧ i < 2 ^ 63 then some (y, xs.eraseIdx k) else none
      | none => none
    | none => none
  | _ => none
theorem ms_pop : MtR X "list.pop" (rLm X.K (cmX X) mPop) := by
  intro pins s σ H x vs v us Q I rx rv h
  obtain ⟨μ, S, j, a, xs, ys, r, zs, R, rfl, hj, hS, ry, hf, q⟩ := h
  obtain ⟨vs0, h0, l0, r0⟩ := R.ob j a _ hj hS
  unfold mPop at hf
  split at hf
  · split at hf
    · rename_i y hy
      cases hf
      cases ry
      obtain ⟨w, hw, rw1⟩ := r0.get hy
      rw [r0.length] at hw
      exact mt_pop pins s σ H _ _ v us Q I rx rv ⟨a, vs0, w, rfl, rfl, h0, hw, q _ _ (Ext.put hj) (R.put hj ⟨_, upd_same, by simp; omega, RVs.mono R (Ext.put hj) r0.dropLast⟩) (rw1.mono R (Ext.put hj))⟩
    · cases hf
  · rename_i i
    split at hf
    · rename_i k hk
      split at hf
      · rename_i y hy
        split at hf
        · rename_i hb
          cases hf
          obtain ⟨w0, rfl, r1⟩ := ry.one
          cases r1
          obtain ⟨w, hw, rw1⟩ := r0.get hy
          have e2 := (ixN_seq hk).1
          rw [r0.length] at e2
          exact mt_popAt pins s σ H _ _ v us Q I rx rv ⟨a, vs0, i, k, w, rfl, rfl, h0, hb.1, hb.2, e2, hw, q _ _ (Ext.put hj) (R.put hj ⟨_, upd_same, by have := List.length_eraseIdx_le xs k; omega, RVs.mono R (Ext.put hj) (r0.eraseIdx k)⟩) (rw1.mono R (Ext.put hj))⟩
        · cases hf
      · cases hf
    · cases hf
  · cases hf
/-! o.extend(list) -/
noncomputable def vExt (o : TV) (l : TL) : TV := fun ρ S => (o ρ S).bind fun x S => match x with
  | .ref j => match S[j]? with
    | some (.lst _) => (l ρ S).bind fun m S => match S[j]? with
      | some (.lst xs) => if xs.length + m.1.length ≤ sizeLine ∧ m.2 ≠ some j then .ok .non (S.set j (.lst (xs ++ m.1))) else .bad
      | _ => .bad
    | _ => .bad
  | _ => .bad
def rExtS (K : PySem.W.Frag) (cm : Str → Value → Prop) : V → List V → Hp → VK → Prop := fun v ws H Q => ∃ μ S j a b xs ys us, RS K cm μ S H ∧ v = .ref a ∧ ws = [.ref b] ∧ μ[j]? = some a ∧ S[j]? = some (.lst xs) ∧ H b = some (.lst us) ∧ RVs K μ H ys us ∧ xs.length + ys.length ≤ sizeLine ∧
  ∀ H', Ext μ H μ H' → RS K cm μ (S.set j (.lst (xs ++ ys))) H' → Q .non H'
theorem ms_extend : MtR X "list.extend" (rExtS X.K (cmX X)) := by
  intro pins s σ H x vs v us Q I rx rv h
  obtain ⟨μ, S, j, a, b, xs, ys, ws, R, rfl, rfl, hj, hS, hb, ry, hl, q⟩ := h
  obtain ⟨vs0, h0, l0, r0⟩ := R.ob j a _ hj hS
  refine mt_extend pins s σ H _ _ v us Q I rx rv ⟨a, b, vs0, ws, rfl, rfl, h0, hb, by rw [← r0.length, ← ry.length]; exact hl, ?_⟩
  exact q _ (Ext.put hj) (R.put hj ⟨_, upd_same, by rw [List.length_append]; exact hl, RVs.mono R (Ext.put hj) (r0.append ry)⟩)
theorem sv_extend (ho : PE X o (E_ X W eo)) (ha : PE X e (L_ X W el))
    (hbase : attributeBase o "extend" X.env (eval o X.env) = eval o X.env := by rfl)
    (hfew : ((backTo cpos (starEach [e] X.env)).all (fun x => !x.1) && (backToKw cpos (keywordEach [] X.env)).all (fun x => x.1.isSome)
      && decide (([e] : List Expr).length + ([] : List Keyword).length + (if ([] : List Keyword).isEmpty then 0 else 1) < 30)) = true := by rfl)
    (hline : (apos.endLine == cpos.line) = true := by rfl) (hs : starEach [e] X.env = (false, eval e X.env) :: starEach [] X.env := by rfl) :
    PE X (.Call (.Attribute o "extend" apos) [e] [] cpos) (E_ X W (vExt eo el)) := by
  refine PE.imp (pe_bm PySem.F.plainAttrs_list PySem.F.slot_list_extend PySem.F.type_list_extend ms_extend ho (pa_cons ha pa_nil hs) hbase hfew hline hs (by rfl)) fun σ H Q h => ?_
  obtain ⟨μ, S, ρ, R, E, p⟩ := h
  refine ⟨μ, S, ρ, R, E, Post.step (P := fun μ H r => Post X.K (cmX X) μ H r Q (atσ W σ)) p (fun _ _ h => h) (fun h => h) fun x S1 μ1 H1 v E1 R1 rv p => ?_⟩
  split at p
  · rename_i j
    split at p
    · rename_i xs0 hS0
      cases rv with
      | @ref _ ad hj =>
        obtain ⟨vs0, h0, _, _⟩ := R1.ob j ad _ hj hS0
        refine ⟨.inl ⟨rfl, vs0, SqL.of h0⟩, μ1, S1, ρ, R1, E.mono R E1, PostL.step (P := fun μ H r => Post X.K (cmX X) μ H r Q (atσ W σ)) (Post.ext E1 p) (fun _ _ h => h) (fun h => h) fun m S2 μ2 H2 b E2 R2 rm p => ?_⟩
        split at p
        · rename_i xs hS
          split at p
          · rename_i hc
            obtain ⟨us, hb, _, r⟩ := rm.lst R2
            exact ⟨μ2, S2, j, ad, b, xs, m.1, us, R2, rfl, rfl, E2.pre _ _ hj, hS, hb, r, hc.1, fun H' E3 R3 => p μ2 H' _ (E2.trans E3) R3 .non⟩
          · exact p.elim
        · exact p.elim
    · exact p.elim
  · exact p.elim
/-! ### methods of texts -/
def vSm (f : Str → List PV → Option PV) (o : TV) (es : TVs) : TV := fun ρ S => (o ρ S).bind fun x S => match x with
  | .str z => (es ρ S).bind fun ys S => ofO (f z ys) S
  | _ => .bad
def lSm (f : Str → List PV → Option (List PV)) (o : TV) (es : TVs) : TL := fun ρ S => (o ρ S).bind fun x S => match x with
  | .str z => (es ρ S).bind fun ys S => match f z ys with
    | some zs => .ok (zs, none) S
    | none => .bad
  | _ => .bad
def vSmL (f : Str → List PV → Option PV) (o : TV) (l : TL) : TV := fun ρ S => (o ρ S).bind fun x S => match x with
  | .str z => (l ρ S).bind fun m S => ofO (f z m.1) S
  | _ => .bad
def rSm (K : PySem.W.Frag) (cm : Str → Value → Prop) (f : Str → List PV → Option PV) : V → List V → Hp → VK → Prop := fun v ws H Q => ∃ μ S z ys r, RS K cm μ S H ∧ v = .str z ∧ SOk z ∧ RVs K μ H ys ws ∧ f z ys = some r ∧
  ∀ H' u, Ext μ H μ H' → RS K cm μ S H' → RV K μ H' r u → Q u H'
def rSmN (K : PySem.W.Frag) (cm : Str → Value → Prop) (f : Str → List PV → Option (List PV)) : V → List V → Hp → VK → Prop := fun v ws H Q => ∃ μ S z ys zs, RS K cm μ S H ∧ v = .str z ∧ SOk z ∧ RVs K μ H ys ws ∧ f z ys = some zs ∧
  ∀ p us, H p = none → RVs K μ H zs us → zs.length ≤ sizeLine → Q (.ref p) (upd H p (.lst us))
def rSmL (K : PySem.W.Frag) (cm : Str → Value → Prop) (f : Str → List PV → Option PV) : V → List V → Hp → VK → Prop := fun v ws H Q => ∃ μ S z ys a us r, RS K cm μ S H ∧ v = .str z ∧ SOk z ∧ ws = [.ref a] ∧ H a = some (.lst us) ∧ RVs K μ H ys us ∧ f z ys = some r ∧
  ∀ H' u, Ext μ H μ H' → RS K cm μ S H' → RV K μ H' r u → Q u H'
theorem vSm_imp {f : Str → List PV → Option PV} {σ : L2.St} {H : Hp} {Q : VK} (h : E_ X W (vSm f eo evs) σ H Q) : tBM X.K "str" (rSm X.K (cmX X) f) (E_ X W eo) (A_ X W evs) σ H Q := by
  obtain ⟨μ, S, ρ, R, E, p⟩ := h
  refine ⟨μ, S, ρ, R, E, Post.step (P := fun μ H r => Post X.K (cmX X) μ H r Q (atσ W σ)) p (fun _ _ h => h) (fun h => h) fun x S1 μ1 H1 v E1 R1 rv p => ?_⟩
  split at p
  · rename_i z
    cases rv with
    | str _ ok =>
      refine ⟨rfl, μ1, S1, ρ, R1, E.mono R E1, PostA.step (P := fun μ H r => Post X.K (cmX X) μ H r Q (atσ W σ)) (Post.ext E1 p) (fun _ _ h => h) (fun h => h) fun ys S2 μ2 H2 ws E2 R2 rvs p => ?_⟩
      cases hf : f z ys with
      | none => rw [hf] at p; exact p.elim
      | some r => rw [hf] at p; exact ⟨μ2, S2, z, ys, r, R2, rfl, ok, rvs, hf, fun H' u E3 R3 r3 => p μ2 H' u (E2.trans E3) R3 r3⟩
  · exact p.elim
theorem lSm_imp {f : Str → List PV → Option (List PV)} {σ : L2.St} {H : Hp} {Q : VK} (h : L_ X W (lSm f eo evs) σ H Q) : tBM X.K "str" (rSmN X.K (cmX X) f) (E_ X W eo) (A_ X W evs) σ H Q := by
  obtain ⟨μ, S, ρ, R, E, p⟩ := h
  refine ⟨μ, S, ρ, R, E, Post.step (P := fun μ H r => PostL X.K (cmX X) μ H r Q (atσ W σ)) p (fun _ _ h => h) (fun h => h) fun x S1 μ1 H1 v E1 R1 rv p => ?_⟩
  split at p
  · rename_i z
    cases rv with
    | str _ ok =>
      refine ⟨rfl, μ1, S1, ρ, R1, E.mono R E1, PostA.step (P := fun μ H r => PostL X.K (cmX X) μ H r Q (atσ W σ)) (PostL.ext E1 p) (fun _ _ h => h) (fun h => h) fun ys S2 μ2 H2 ws E2 R2 rvs p => ?_⟩
      cases hf : f z ys with
      | none => rw [hf] at p; exact p.elim
      | some zs => rw [hf] at p; exact ⟨μ2, S2, z, ys, zs, R2, rfl, ok, rvs, hf, fun q us hq r2 hl2 => fresh_L E2 R2 p hq r2 hl2⟩
  · exact p.elim
theorem vSmL_imp {f : Str → List PV → Option PV} {σ : L2.St} {H : Hp} {Q : VK} (h : E_ X W (vSmL f eo el) σ H Q) : tBM X.K "str" (rSmL X.K (cmX X) f) (E_ X W eo) (tCons (L_ X W el) tNil) σ H Q := by
  obtain ⟨μ, S, ρ, R, E, p⟩ := h
  refine ⟨μ, S, ρ, R, E, Post.step (P := fun μ H r => Post X.K (cmX X) μ H r Q (atσ W σ)) p (fun _ _ h => h) (fun h => h) fun x S1 μ1 H1 v E1 R1 rv p => ?_⟩
  split at p
  · rename_i z
    cases rv with
    | str _ ok =>
      refine ⟨rfl, μ1, S1, ρ, R1, E.mono R E1, PostL.step (P := fun μ H r => Post X.K (cmX X) μ H r Q (atσ W σ)) (Post.ext E1 p) (fun _ _ h => h) (fun h => h) fun m S2 μ2 H2 b E2 R2 rm p => ?_⟩
      obtain ⟨us, hb, _, r⟩ := rm.lst R2
      cases hf : f z m.1 with
      | none => rw [hf] at p; exact p.elim
      | some y => rw [hf] at p; exact ⟨μ2, S2, z, m.1, b, us, y, R2, rfl, ok, rfl, hb, r, hf, fun H' u E3 R3 r3 => p μ2 H' u (E2.trans E3) R3 r3⟩
  · exact p.elim
theorem sv_sm {name : Str} {id : String} {f : Str → List PV → Option PV} (slot : Slot "str" name id) (hty : typeOf (.builtin id) = pure (.type "method_descriptor")) (hm : MtR X id (rSm X.K (cmX X) f)) (ho : PE X o (E_ X W eo)) (ha : PA X (e :: es) (A_ X W evs))
    (hbase : attributeBase o name X.env (eval o X.env) = eval o X.env := by rfl)
    (hfew : ((backTo cpos (starEach (e :: es) X.env)).all (fun x => !x.1) && (backToKw cpos (keywordEach [] X.env)).all (fun x => x.1.isSome)
      && decide ((e :: es).length + ([] : List Keyword).length + (if ([] : List Keyword).isEmpty then 0 else 1) < 30)) = true := by rfl)
    (hline : (apos.endLine == cpos.line) = true := by rfl) (hs : starEach (e :: es) X.env = (false, eval e X.env) :: starEach es X.env := by rfl) (hplain : (backTo cpos (starEach es X.env)).any (·.1) = false := by rfl) :
    PE X (.Call (.Attribute o name apos) (e :: es) [] cpos) (E_ X W (vSm f eo evs)) :=
  PE.imp (pe_bm PySem.F.plainAttrs_str slot hty hm ho ha hbase hfew hline hs hplain) fun _ _ _ h => vSm_imp h
theorem sl_sm {name : Str} {id : String} {f : Str → List PV → Option (List PV)} (slot : Slot "str" name id) (hty : typeOf (.builtin id) = pure (.type "method_descriptor")) (hm : MtR X id (rSmN X.K (cmX X) f)) (ho : PE X o (E_ X W eo)) (ha : PA X (e :: es) (A_ X W evs))
    (hbase : attributeBase o name X.env (eval o X.env) = eval o X.env := by rfl)
    (hfew : ((backTo cpos (starEach (e :: es) X.env)).all (fun x => !x.1) && (backToKw cpos (keywordEach [] X.env)).all (fun x => x.1.isSome)
      && decide ((e :: es).length + ([] : List Keyword).length + (if ([] : List Keyword).isEmpty then 0 else 1) < 30)) = true := by rfl)
    (hline : (apos.endLine == cpos.line) = true := by rfl) (hs : starEach (e :: es) X.env = (false, eval e X.env) :: starEach es X.env := by rfl) (hplain : (backTo cpos (starEach es X.env)).any (·.1) = false := by rfl) :
    PE X (.Call (.Attribute o name apos) (e :: es) [] cpos) (L_ X W (lSm f eo evs)) :=
  PE.imp (pe_bm PySem.F.plainAttrs_str slot hty hm ho ha hbase hfew hline hs hplain) fun _ _ _ h => lSm_imp h
theorem sv_smL {name : Str} {id : String} {f : Str → List PV → Option PV} (slot : Slot "str" name id) (hty : typeOf (.builtin id) = pure (.type "method_descriptor")) (hm : MtR X id (rSmL X.K (cmX X) f)) (ho : PE X o (E_ X W eo)) (ha : PE X e (L_ X W el))
    (hbase : attributeBase o name X.env (eval o X.env) = eval o X.env := by rfl)
    (hfew : ((backTo cpos (starEach [e] X.env)).all (fun x => !x.1) && (backToKw cpos (keywordEach [] X.env)).all (fun x => x.1.isSome)
      && decide (([e] : List Expr).length + ([] : List Keyword).length + (if ([] : List Keyword).isEmpty then 0 else 1) < 30)) = true := by rfl)
    (hline : (apos.endLine == cpos.line) = true := by rfl) (hs : starEach [e] X.env = (false, eval e X.env) :: starEach [] X.env := by rfl) :
    PE X (.Call (.Attribute o name apos) [e] [] cpos) (E_ X W (vSmL f eo el)) :=
  PE.imp (pe_bm PySem.F.plainAttrs_str slot hty hm ho (pa_cons ha pa_nil hs) hbase hfew hline hs (by rfl)) fun _ _ _ h => vSmL_imp h
def rSm0 (K : PySem.W.Frag) (cm : Str → Value → Prop) (f : Str → Option PV) : V → List V → Hp → VK → Prop := fun v ws H Q => ∃ μ S z r, RS K cm μ S H ∧ v = .str z ∧ SOk z ∧ ws = [] ∧ f z = some r ∧
  ∀ H' u, Ext μ H μ H' → RS K cm μ S H' → RV K μ H' r u → Q u H'
def vSm0 (f : Str → Option PV) (o : TV) : TV := fun ρ S => (o ρ S).bind fun x S => match x with
  | .str z => ofO (f z) S
  | _ => .bad
theorem sv_sm0 {name : Str} {id : String} {f : Str → Option PV} (slot : Slot "str" name id) (hty : typeOf (.builtin id) = pure (.type "method_descriptor")) (hm : MtR X id (rSm0 X.K (cmX X) f)) (ho : PE X o (E_ X W eo))
    (hbase : attributeBase o name X.env (eval o X.env) = eval o X.env := by rfl) (hline : (apos.endLine == cpos.line) = true := by rfl) :
    PE X (.Call (.Attribute o name apos) [] [] cpos) (E_ X W (vSm0 f eo)) := by
  refine PE.imp (pe_bm0 PySem.F.plainAttrs_str slot hty hm ho hbase hline) fun σ H Q h => ?_
  obtain ⟨μ, S, ρ, R, E, p⟩ := h
  refine ⟨μ, S, ρ, R, E, Post.step (P := fun μ H r => Post X.K (cmX X) μ H r Q (atσ W σ)) p (fun _ _ h => h) (fun h => h) fun x S1 μ1 H1 v E1 R1 rv p => ?_⟩
  split at p
  · rename_i z
    cases rv with
    | str _ ok =>
      cases hf : f z with
      | none => rw [hf] at p; exact p.elim
      | some r => rw [hf] at p; exact ⟨rfl, μ1, S1, z, r, R1, rfl, ok, rfl, hf, fun H' u E3 R3 r3 => p μ1 H' u (E1.trans E3) R3 r3⟩
  · exact p.elim
def asStr : List PV → Option (List Str)
  | [] => some []
  | .str b :: r => (asStr r).map (b :: ·)
  | _ :: _ => none
theorem asStr_ok {K : PySem.W.Frag} {μ : List Addr} {H : Hp} : ∀ {xs : List PV} {vs : List V} {bs : List Str}, RVs K μ H xs vs → asStr xs = some bs → vs = bs.map V.str
  | [], _, bs, .nil, h => by cases h; rfl
  | x :: xs, _, bs, .cons r t, h => by
    cases r with
    | str b hb =>
      simp only [asStr, Option.map_eq_some_iff] at h
      obtain ⟨cs, h1, rfl⟩ := h
      rw [asStr_ok t h1]; rfl
    | _ => simp [asStr] at h
theorem RVs.strs {K : PySem.W.Frag} {μ : List Addr} {H : Hp} : ∀ {ys : List Str}, (∀ y ∈ ys, SOk y) → RVs K μ H (ys.map PV.str) (ys.map V.str)
  | [], _ => .nil
  | y :: ys, h => .cons (.str y (h y (by simp))) (RVs.strs fun z hz => h z (by simp [hz]))
def mSplit (z : Str) (ys : List PV) : Option (List PV) := match ys with
  | [.str b] => if b.length ≠ 0 ∧ z.length + 2 ≤ sizeLine ∧ (∀ p ∈ Txt.split z b, SOk p) ∧ (Txt.split z b).length ≤ sizeLine then some ((Txt.split z b).map .str) else none
  | _ => none
theorem Vals.strs_of {K : PySem.W.Frag} {μ : List Addr} {H : Hp} {ys : List Str} {us : List V} (h : RVs K μ H (ys.map PV.str) us) : us = ys.map V.str := by
  induction ys generalizing us with
  | nil => cases h; rfl
  | cons y ys ih => cases h with | cons h t => cases h; rw [ih t]; rfl
theorem ms_split : MtR X "str.split" (rSmN X.K (cmX X) mSplit) := by
  intro pins s σ H x vs v us Q I rx rv h
  obtain ⟨μ, S, z, ys, zs, R, rfl, ok, ry, hf, q⟩ := h
  unfold mSplit at hf
  split at hf
  · rename_i b
    split at hf
    · rename_i hc
      cases hf
      obtain ⟨w, rfl, r1⟩ := ry.one
      cases r1
      refine mt_split pins s σ H _ _ v us Q I rx rv ⟨z, b, rfl, rfl, by simpa using hc.1, hc.2.1, fun p hp => ?_⟩
      exact q p _ hp (RVs.strs hc.2.2.1) (by simpa using hc.2.2.2)
    · cases hf
  · cases hf
def mJoin (z : Str) (ys : List PV) : Option PV := match asStr ys with
  | some bs => if (bs.map (·.length)).sum + bs.length * z.length ≤ 16777216 ∧ SOk (Txt.join z bs) then some (.str (Txt.join z bs)) else none
  | none => none
theorem ms_join : MtR X "str.join" (rSmL X.K (cmX X) mJoin) := by
  intro pins s σ H x vs v us Q I rx rv h
  obtain ⟨μ, S, z, ys, a, ws, r, R, rfl, ok, rfl, ha, ry, hf, q⟩ := h
  unfold mJoin at hf
  split at hf
  · rename_i bs hb
    split at hf
    · rename_i hc
      cases hf
      have e := asStr_ok ry hb
      subst e
      exact mt_join pins s σ H _ _ v us Q I rx rv ⟨z, a, bs, rfl, rfl, .inl (SqL.of ha), hc.1, q H _ Ext.refl R (.str _ hc.2)⟩
    · cases hf
  · cases hf
/-- join of a tuple or a list that is held -/
def mJoinV (S : Store) (z : Str) (ys : List PV) : Option PV := match ys with
  | [y] => match deref S y with
    | .frl xs => mJoin z xs
    | .tup xs => mJoin z xs
    | _ => none
  | _ => none
def mIndex (z : Str) (ys : List PV) : Option PV := match ys with
  | [.str b] => match Builtin.Str.occurrences z b 0 z.length 1 with
    | i :: _ => some (.int (i : Nat))
    | [] => none
  | _ => none
theorem ms_index : MtR X "str.index" (rSm X.K (cmX X) mIndex) := by
  intro pins s σ H x vs v us Q I rx rv h
  obtain ⟨μ, S, z, ys, r, R, rfl, ok, ry, hf, q⟩ := h
  unfold mIndex at hf
  split at hf
  · rename_i b
    split at hf
    · rename_i i rest hi
      cases hf
      obtain ⟨w, rfl, r1⟩ := ry.one
      cases r1
      exact mt_sindex pins s σ H _ _ v us Q I rx rv ⟨z, b, i, rest, rfl, rfl, hi, q H _ Ext.refl R (.int _)⟩
    · cases hf
  · cases hf
def mUpper (z : Str) : Option PV := if z.length ≤ 5592405 ∧ SOk (Txt.upper z) then some (.str (Txt.upper z)) else none
theorem ms_upper : MtR X "str.upper" (rSm0 X.K (cmX X) mUpper) := by
  intro pins s σ H x vs v us Q I rx rv h
  obtain ⟨μ, S, z, r, R, rfl, ok, rfl, hf, q⟩ := h
  simp only [mUpper] at hf
  split at hf
  · rename_i hc
    cases hf
    exact mt_upper pins s σ H _ _ v _ Q I rx rv ⟨z, rfl, rfl, hc.1, q H _ Ext.refl R (.str _ hc.2)⟩
  · cases hf
/-! ### {}, {k: v} -/
def vDic0 : TV := fun _ S => .ok (.ref S.length) (S ++ [.dic []])
theorem sv_dic0 : PE X (.Dict [] [] pos) (E_ X W vDic0) := by
  refine PE.imp pe_dnewK fun σ H Q h => ?_
  obtain ⟨μ, S, ρ, R, E, p⟩ := h
  intro q hq
  refine p (μ ++ [q]) _ _ (Ext.grow hq) (R.grow hq ⟨[], upd_same, by decide, .nil⟩) (.ref ?_)
  rw [List.getElem?_append_right (by rw [R.len]; exact Nat.le_refl _), R.len, Nat.sub_self]; rfl
def vDic1 (a b : TV) : TV := fun ρ S => (a ρ S).bind fun k S => (b ρ S).bind fun v S => match keyOf k with
  | some k => .ok (.ref S.length) (S ++ [.dic [(k, v)]])
  | none => .bad
theorem sv_dic1 (ha : PE X a (E_ X W ea)) (hb : PE X b (E_ X W eb)) : PE X (.Dict [some a] [b] pos) (E_ X W (vDic1 ea eb)) := by
  refine PE.imp (pe_disp (pps_cons ha hb pps_nil) (by rfl) (by rfl) (by simp) (by simp)) fun σ H Q h => ?_
  obtain ⟨μ, S, ρ, R, E, p⟩ := h
  intro q hq
  have E0 : Ext μ H μ (upd H q (.dK [])) := Ext.fresh hq
  have R0 : RS X.K (cmX X) μ S (upd H q (.dK [])) := R.fresh hq
  refine ⟨μ, S, ρ, R0, E.mono R E0, Post.step (P := fun _ _ r => Post X.K (cmX X) μ H r Q (atσ W σ)) p (fun _ _ h => Post.ext E0 h) (fun h => h) fun k S1 μ1 H1 v E1 R1 rv p => ?_⟩
  refine ⟨μ1, S1, ρ, R1, (E.mono R E0).mono R0 E1, Post.step (P := fun _ _ r => Post X.K (cmX X) μ H r Q (atσ W σ)) p (fun _ _ h => Post.ext (E0.trans E1) h) (fun h => h) fun y S2 μ2 H2 w E2 R2 rw2 p => ?_⟩
  have hm : q ∉ μ := fun h => R.trk h hq
  have hm1 : q ∉ μ1 := fun z => by
    rcases E1.new q z with h | h
    · exact hm h
    · rw [upd_same] at h; cases h
  have h1 : H1 q = some (.dK []) := E1.kp _ _ upd_same hm
  have hm2 : q ∉ μ2 := fun z => by
    rcases E2.new q z with h | h
    · exact hm1 h
    · rw [h1] at h; cases h
  have h2 : H2 q = some (.dK []) := E2.kp _ _ h1 hm1
  have rk := rv.mono R1 E2
  refine ⟨h2, ?_⟩
  have up : Up2 μ2 H2 μ2 (upd H2 q (.dK (mergeK [] []))) := ⟨fun _ _ h => h, fun b vs hb => by
    rcases hb with hb | ⟨u, hb⟩
    · exact .inl (by rw [upd_ne]; exact hb; rintro rfl; rw [h2] at hb; cases hb)
    · exact .inr ⟨u, by rw [upd_ne]; exact hb; rintro rfl; rw [h2] at hb; cases hb⟩, fun b u vs hb => by rw [upd_ne]; exact hb; rintro rfl; rw [h2] at hb; cases hb⟩
  have fin : ∀ (key : Key), keyOf k = some key → v = kV key → ∃ kvs : List (Key × V), [(v, w)] = kvs.map (fun kv => (kV kv.1, kv.2)) ∧ kvs.length ≤ 15 ∧ Q (.ref q) (upd H2 q (.dK (mergeK [] kvs))) := fun key hk hv => by
    rw [hk] at p
    subst hv
    refine ⟨[(key, w)], rfl, by simp, ?_⟩
    have up : Up2 μ2 H2 (μ2 ++ [q]) (upd H2 q (.dK (mergeK [] [(key, w)]))) := ⟨fun i b h => by rw [List.getElem?_append_left (List.getElem?_eq_some_iff.mp h).1]; exact h, fun b vs hb => by
      rcases hb with hb | ⟨u, hb⟩
      · exact .inl (by rw [upd_ne]; exact hb; rintro rfl; rw [h2] at hb; cases hb)
      · exact .inr ⟨u, by rw [upd_ne]; exact hb; rintro rfl; rw [h2] at hb; cases hb⟩, fun b u vs hb => by rw [upd_ne]; exact hb; rintro rfl; rw [h2] at hb; cases hb⟩
    have ex : Ext μ H μ2 H2 := (E0.trans E1).trans E2
    refine p (μ2 ++ [q]) _ _ ⟨fun i b h => up.pre i b (E2.pre i b (E1.pre i b h)), fun b hb => ?_, fun b u h hbm => ?_⟩ ⟨by simp [R2.len], ?_, fun i b o hi ho => ?_⟩ (.ref ?_)
    · rcases List.mem_append.mp hb with hb | hb
      · exact ex.new b hb
      · rw [List.mem_singleton.mp hb]; exact .inr hq
    · rw [upd_ne (ne_of_none h hq)]; exact ex.kp b u h hbm
    · rw [List.nodup_append]
      exact ⟨R2.nd, by simp, fun x hx y hy => by rw [List.mem_singleton.mp hy]; rintro rfl; exact hm2 hx⟩
    · by_cases hl : i < μ2.length
      · rw [List.getElem?_append_left hl] at hi
        rw [List.getElem?_append_left (by rw [← R2.len]; exact hl)] at ho
        exact (R2.ob i b o hi ho).mono2 up (by rw [upd_ne]; rintro rfl; exact hm2 (List.mem_of_getElem? hi))
      · have h1 := (List.getElem?_eq_some_iff.mp hi).1
        simp at h1
        have : i = μ2.length := by omega
        subst this
        rw [List.getElem?_append_right (Nat.le_refl _), Nat.sub_self] at hi
        rw [R2.len, List.getElem?_append_right (Nat.le_refl _), Nat.sub_self] at ho
        simp at hi ho
        subst hi ho
        exact ⟨[(key, w)], upd_same, by show 1 ≤ sizeLine; decide, .cons ⟨rfl, rw2.mono2 up⟩ .nil⟩
    · rw [List.getElem?_append_right (by rw [R2.len]; exact Nat.le_refl _), R2.len, Nat.sub_self]; rfl
  cases rk with
  | int i => exact fin (.inl i) rfl rfl
  | str z _ => exact fin (.inr z) rfl rfl
  | _ => exact p.elim
/-! ### constants of the module -/
/-- the name x of the module holds v -/
def GlV (K : PySem.W.Frag) (mg : Str → Option Value) (x : Str) (v : PV) : Prop := ∃ u va, mg x = some u ∧ RelV va u ∧ ∀ μ H, RV K μ H v va
theorem sv_glob {x : Str} {v : PV} (h : GlV X.K X.mg x v) (hg : Gl X x) (hd : (x == ("__debug__" : Str)) = false := by decide) : PE X (.Name x pos) (E_ X W (vC v)) := by
  obtain ⟨u, va, hm, r, rv⟩ := h
  exact PE.imp (pe_glob hg hm r hd) fun σ H Q ⟨μ, S, ρ, R, E, p⟩ => p μ H _ Ext.refl R (rv μ H)
end
end Ev

/-! Fw9: lists compared; the defs of a text, all at once. -/
namespace Ev
open PySem PySem.Spec PyProof.Rows L2
section
variable {X : Cx} {W : WX} {a b e o : Expr} {es : List Expr} {ea eb eo : TV} {la lb el : TL} {evs : TVs} {pos apos cpos : Pos}
/-! ### lists compared -/
noncomputable def vEqL (neg : Bool) (a b : TL) : TV := fun ρ S => (a ρ S).bind fun l S => (b ρ S).bind fun m S =>
  if lkOk l S then match eqS S (.frl l.1) (.frl m.1) with
    | some k => .ok (.bl (neg != k)) S
    | none => .bad
  else .bad
def rEqLs (K : PySem.W.Frag) (cm : Str → Value → Prop) (neg : Bool) : R2 := fun v w H Q => ∃ a b xs ys vs ws μ S k, RS K cm μ S H ∧ v = .ref a ∧ w = .ref b ∧ H a = some (.lst vs) ∧ H b = some (.lst ws) ∧ RVs K μ H xs vs ∧ RVs K μ H ys ws ∧ eqS S (.frl xs) (.frl ys) = some k ∧ Q (.bl (neg != k)) H
theorem eqL_core {neg : Bool} {op : CmpOp} (hu : X.A.units + 195 < cLine) (hop : (neg = false ∧ op = .Eq) ∨ (neg = true ∧ op = .NotEq)) : OpR X (compareOp op) (rEqLs X.K (cmX X) neg) := by
  intro pins s σ H x y v u Q I rx ry h
  obtain ⟨a, b, xs, ys, vs, ws, μ, S, k, R, rfl, rfl, h1, h2, r1, r2, he, q⟩ := h
  have he : (if (PV.frl xs).dat = true ∧ (PV.frl ys).dat = true ∧ (PV.frl xs).dep ≤ deepest then some ((PV.frl xs).eqv (PV.frl ys)) else emptyEq (PV.frl xs) (PV.frl ys)) = some k := he
  by_cases hc : (PV.frl xs).dat = true ∧ (PV.frl ys).dat = true ∧ (PV.frl xs).dep ≤ deepest
  · rw [if_pos hc] at he
    cases he
    simp only [PV.dat] at hc
    obtain ⟨p1, c1⟩ := RVs.dp r1 hc.1
    obtain ⟨p2, c2⟩ := RVs.dp r2 hc.2.1
    obtain ⟨as, w1⟩ := (Dp.lst (SqL.of h1) p1).reads I _ _ _ rx
    obtain ⟨bs, w2⟩ := (Dp.lst (SqL.of h2) p2).reads I _ _ _ ry
    have hd : X.A.units + min (PyData.list (PV.pds xs)).depth (PyData.list (PV.pds ys)).depth < cLine := by
      have := Nat.min_le_left (PyData.list (PV.pds xs)).depth (PyData.list (PV.pds ys)).depth
      have h3 := hc.2.2
      simp only [PyData.depth] at this ⊢
      rw [PV.deps_pd] at this ⊢
      simp only [PV.dep, deepest] at h3
      omega
    have e : PyData.eqv (.list (PV.pds xs)) (.list (PV.pds ys)) = PV.eqv (.frl xs) (.frl ys) := by simp only [PyData.eqv, PV.eqvs_pd _ _ hc.1 hc.2.1, PV.eqv]
    rcases hop with ⟨rfl, rfl⟩ | ⟨rfl, rfl⟩
    · exact SeqAt.compareEq_reads w1 w2 c1 c2 hd ⟨.bl _, H, I, by rw [e]; simp only [Bool.false_bne]; rfl, q⟩
    · exact SeqAt.compareNe_reads w1 w2 c1 c2 hd ⟨.bl _, H, I, by rw [e]; simp only [Bool.true_bne]; rfl, q⟩
  · rw [if_neg hc] at he
    simp only [emptyEq] at he
    split at he
    · rename_i hc
      cases he
      cases rx; cases ry
      obtain ⟨i1, v1, p1, _⟩ := I.list (SqL.of h1)
      obtain ⟨i2, v2, p2, _⟩ := I.list (SqL.of h2)
      have n1 : i1.toArray.size = xs.length := by rw [r1.length, v1.length]; simp
      have n2 : i2.toArray.size = ys.length := by rw [r2.length, v2.length]; simp
      by_cases hn : xs.length = ys.length
      · have h0 : i1.toArray.size = 0 := by
          simp only [Bool.or_eq_true, List.isEmpty_iff] at hc
          rw [n1]
          rcases hc with h | h
          · rw [h]; rfl
          · rw [hn, h]; rfl
        have e : ((List.range i1.toArray.size).all (fun _ => true)) = (xs.length == ys.length) := by rw [hn]; simp
        rcases hop with ⟨rfl, rfl⟩ | ⟨rfl, rfl⟩
        · exact SeqAt.RcAt.lists (e := fun _ => true) p1.isList p2.isList (by rw [n1, n2, hn]) (by omega) (fun j h1 h2 => by omega) X.prog X.w X.xe _ ⟨.bl _, H, I, by rw [e]; simp only [Bool.false_bne]; rfl, q⟩
        · exact SeqAt.RcNeAt.lists (e := fun _ => true) p1.isList p2.isList (by rw [n1, n2, hn]) (by omega) (fun j h1 h2 => by omega) X.prog X.w X.xe _ ⟨.bl _, H, I, by rw [e]; simp only [Bool.true_bne]; rfl, q⟩
      · have e : (xs.length == ys.length) = false := by simpa using hn
        rw [e] at q
        rcases hop with ⟨rfl, rfl⟩ | ⟨rfl, rfl⟩
        · exact SeqAt.RcAt.lists_lengths p1.isList p2.isList (by rw [n1, n2]; simpa using hn) (by omega) X.prog X.w X.xe _ ⟨.bl _, H, I, rfl, q⟩
        · exact SeqAt.RcNeAt.lists_lengths p1.isList p2.isList (by rw [n1, n2]; simpa using hn) (by omega) X.prog X.w X.xe _ ⟨.bl _, H, I, rfl, q⟩
    · cases he
theorem vEqL_imp {neg : Bool} {σ : L2.St} {H : Hp} {Q : VK} (h : E_ X W (vEqL neg la lb) σ H Q) : tOp (rEqLs X.K (cmX X) neg) (L_ X W la) (L_ X W lb) σ H Q := by
  obtain ⟨μ, S, ρ, R, E, p⟩ := h
  refine ⟨μ, S, ρ, R, E, PostL.step (P := fun μ H r => Post X.K (cmX X) μ H r Q (atσ W σ)) p (fun _ _ h => h) (fun h => h) fun l S1 μ1 H1 ad E1 R1 rl p => ?_⟩
  refine ⟨μ1, S1, ρ, R1, E.mono R E1, PostL.step (P := fun μ H r => Post X.K (cmX X) μ H r Q (atσ W σ)) (p.ext E1) (fun _ _ h => h) (fun h => h) fun m S2 μ2 H2 bd E2 R2 rm p => ?_⟩
  split at p
  · rename_i hc
    obtain ⟨vs, h1, l1, r1⟩ := rl.keep R1 R2 E2 hc
    obtain ⟨ws, h2, l2, r2⟩ := rm.lst R2
    split at p
    · rename_i k hk
      exact ⟨ad, bd, l.1, m.1, vs, ws, μ2, S2, k, R2, rfl, rfl, h1, h2, r1, r2, hk, p μ2 H2 _ E2 R2 (.bl _)⟩
    · exact p.elim
  · exact p.elim
theorem os_eqL (hu : X.A.units + 195 < cLine) : OpR X (compareOp .Eq) (rEqLs X.K (cmX X) false) := eqL_core hu (.inl ⟨rfl, rfl⟩)
theorem os_neL (hu : X.A.units + 195 < cLine) : OpR X (compareOp .NotEq) (rEqLs X.K (cmX X) true) := eqL_core hu (.inr ⟨rfl, rfl⟩)
theorem sv_eqL (hu : X.A.units + 195 < cLine) (ha : PE X a (L_ X W la)) (hb : PE X b (L_ X W lb)) (hm : behindInMarks .Eq b = false) : PE X (.Compare a [.Eq] [b] pos) (E_ X W (vEqL false la lb)) :=
  PE.imp (pe_cmpR (os_eqL hu) ha hb hm) fun _ _ _ h => vEqL_imp h
theorem sv_neL (hu : X.A.units + 195 < cLine) (ha : PE X a (L_ X W la)) (hb : PE X b (L_ X W lb)) (hm : behindInMarks .NotEq b = false) : PE X (.Compare a [.NotEq] [b] pos) (E_ X W (vEqL true la lb)) :=
  PE.imp (pe_cmpR (os_neL hu) ha hb hm) fun _ _ _ h => vEqL_imp h
theorem bBl_imp {ev : TV} {σ : L2.St} {H : Hp} {Q : Bool → Hp → Prop} (h : T_ X W (bBl ev) σ H Q) : E_ X W ev σ H fun x H' => ∃ k, x = .bl k ∧ Q k H' := by
  obtain ⟨μ, S, ρ, R, E, p⟩ := h
  refine ⟨μ, S, ρ, R, E, Post.step (P := fun μ H r => PostB X.K (cmX X) μ H r Q (atσ W σ)) p (fun _ _ h => h) (fun h => h) fun x S1 μ1 H1 v E1 R1 rv p => ?_⟩
  cases rv with
  | bl k => exact ⟨k, rfl, p μ1 H1 E1 R1⟩
  | _ => exact p.elim
theorem st_eqL (hu : X.A.units + 195 < cLine) (ha : PE X a (L_ X W la)) (hb : PE X b (L_ X W lb)) (hm : behindInMarks .Eq b = false) : PT X (.Compare a [.Eq] [b] pos) (T_ X W (bBl (vEqL false la lb))) :=
  PT.imp (pt_cmpR (os_eqL hu) ha hb hm) fun _ _ _ h => vEqL_imp (bBl_imp h)
theorem st_neL (hu : X.A.units + 195 < cLine) (ha : PE X a (L_ X W la)) (hb : PE X b (L_ X W lb)) (hm : behindInMarks .NotEq b = false) : PT X (.Compare a [.NotEq] [b] pos) (T_ X W (bBl (vEqL true la lb))) :=
  PT.imp (pt_cmpR (os_neL hu) ha hb hm) fun _ _ _ h => vEqL_imp (bBl_imp h)
end
/-! ### the defs of a text -/
/-- how many values -/
def VLen (es : TVs) (n : Nat) : Prop := ∀ ρ S xs S', es ρ S = .ok xs S' → xs.length = n
theorem vlen_nil : VLen vsNil 0 := fun ρ S xs S' h => by cases h; rfl
theorem vlen_cons {a : TV} {r : TVs} {n : Nat} (h : VLen r n) : VLen (vsCons a r) (n + 1) := fun ρ S xs S' e => by
  unfold vsCons at e
  cases h1 : a ρ S with
  | ok x S1 =>
    rw [h1] at e
    simp only [bind_ok] at e
    cases h2 : r ρ S1 with
    | ok ys S2 => rw [h2] at e; simp only [bind_ok] at e; cases e; simp [h _ _ _ _ h2]
    | exc _ _ => rw [h2] at e; cases e
    | bad => rw [h2] at e; cases e
  | exc _ _ => rw [h1] at e; cases e
  | bad => rw [h1] at e; cases e
theorem tgl_nil : ∀ (xs : List PV) (ρ ρ' : Env'), tgNil xs ρ = some ρ' → xs.length = 0 := fun xs ρ ρ' h => by
  cases xs with
  | nil => rfl
  | cons _ _ => cases h
theorem tgl_cons {t : Tgt} {r : List PV → Env' → Option Env'} {n : Nat} (hr : ∀ xs ρ ρ', r xs ρ = some ρ' → xs.length = n) : ∀ (xs : List PV) (ρ ρ' : Env'), tgCons t r xs ρ = some ρ' → xs.length = n + 1 := fun xs ρ ρ' h => by
  cases xs with
  | nil => cases h
  | cons x ys =>
    simp only [tgCons] at h
    cases h1 : t x ρ with
    | none => rw [h1] at h; cases h
    | some ρ1 => rw [h1] at h; simp [hr ys ρ1 ρ' h]
abbrev FV := List PV → Store → Res PV
/-- the module's name x is a def that is worth F, down to n calls -/
def FnAt (P : Program) (w : World) (K : PySem.W.Frag) (mg : Str → Option Value) (base : Heap) (n : Nat) (x : Str) (ps : List Str) (F : FV) : Prop :=
  ∃ f fd, FnOk P w K mg base (L2.CX P w) n f fd ps (spF K (cmM mg) ps.length F) ∧ mg x = some (.ref f) ∧ PySem.W.keepIn K (.ref f) = true ∧ Binds K fd ps []
section
variable {X : Cx} {W : WX} {n : Nat} {x : Str} {ps : List Str} {F : FV} {p pos : Pos} {e : Expr} {es : List Expr} {evs : TVs}
theorem sv_callF (h : FnAt X.prog X.w X.K X.mg X.base n x ps F) (hr : Room n X.A) (hx : ∀ σ, PassesAt (L2.CX X.prog X.w) X σ (WE W σ)) (hg : Gl X x) (hn : VLen evs ps.length) (ha : PA X (e :: es) (A_ X W evs))
    (hdb : (x == ("__debug__" : Str)) = false := by decide) (he : starEach (e :: es) X.env = (false, eval e X.env) :: starEach es X.env := by rfl) (hpl : (backTo pos (starEach es X.env)).any (·.1) = false := by rfl) :
    PE X (.Call (.Name x p) (e :: es) [] pos) (E_ X W (vApp F evs)) := by
  obtain ⟨f, fd, hF, hm, hk, hb⟩ := h
  exact sv_call hF hr hg hm hk hb hx hn ha hdb he hpl
theorem sv_callF0 (h : FnAt X.prog X.w X.K X.mg X.base n x [] F) (hr : Room n X.A) (hg : Gl X x) (hdb : (x == ("__debug__" : Str)) = false := by decide) :
    PE X (.Call (.Name x p) [] [] pos) (E_ X W (vApp0 F)) := by
  obtain ⟨f, fd, hF, hm, hk, hb⟩ := h
  exact sv_call0 hF hr hg hm hk hb hdb
end
theorem hu_of' {n : Nat} {A : Around} (r : Room n A) : A.units + 195 < cLine := by have := r.un; omega
theorem hu_1 {n : Nat} {A : Around} (r : Room n A) : A.units + 1 < cLine := by have := r.un; omega
/-- no promise at all -/
theorem fnAt_bad {P : Program} {w : World} {K : PySem.W.Frag} {mg : Str → Option Value} {base : Heap} {n : Nat} {f : Addr} {fd : FuncData} {ps : List Str} : FnOk P w K mg base (L2.CX P w) n f fd ps (spF K (cmM mg) ps.length fun _ _ => .bad) where
  len := fun vs H Q E h => h.1
  run := fun A outer s H args us vs Q E _ _ _ _ h => by obtain ⟨_, _, _, _, _, _, p⟩ := h; exact p.elim
end Ev

/-! Fw10: the head: what the top leaves, constants looked at, the law's end. -/
namespace Ev
open PySem PySem.Spec PyProof.Rows L2
/-! ### a constant, looked at -/
mutual
def chkV (K : PySem.W.Frag) : PV → Value → Bool
  | .non, .none => true
  | .bl b, .bool c => b == c
  | .int i, .int j _ => decide (i = j)
  | .str x, .str y _ => decide (x = y) && decide (SOk x)
  | .tup vs, .ref a => match K.lookup a with
    | some ⟨.type c, _, .seq its _, _⟩ => decide (c = "tuple") && (decide (its.size ≤ sizeLine) && chkVs K vs its.toList)
    | _ => false
  | _, _ => false
def chkVs (K : PySem.W.Frag) : List PV → List Value → Bool
  | [], [] => true
  | v :: vs, u :: us => chkV K v u && chkVs K vs us
  | _, _ => false
end
mutual
theorem chkV_ok {K : PySem.W.Frag} : ∀ (v : PV) (u : Value), chkV K v u = true → ∃ va, RelV va u ∧ ∀ μ H, RV K μ H v va
  | .non, u, h => by
    cases u <;> simp [chkV] at h
    exact ⟨.non, rfl, fun _ _ => .non⟩
  | .bl b, u, h => by
    cases u <;> simp [chkV] at h
    subst h
    exact ⟨.bl b, rfl, fun _ _ => .bl b⟩
  | .int i, u, h => by
    cases u <;> simp [chkV] at h
    subst h
    exact ⟨.int i, ⟨_, rfl⟩, fun _ _ => .int i⟩
  | .str x, u, h => by
    cases u <;> simp [chkV] at h
    obtain ⟨h1, h2⟩ := h
    subst h1
    exact ⟨.str x, ⟨_, rfl⟩, fun _ _ => .str x h2⟩
  | .tup vs, u, h => by
    cases u with
    | ref a =>
      simp only [chkV] at h
      split at h
      · rename_i c d its n sl e
        simp only [Bool.and_eq_true, decide_eq_true_eq] at h
        obtain ⟨h1, h2, h3⟩ := h
        obtain ⟨ws, r, q⟩ := chkVs_ok vs its.toList h3
        have hl : vs.length = its.size := by
          have e1 := (q [] fun _ => none).length
          have e2 := r.length
          rw [e1, e2]; simp
        exact ⟨.ref a, rfl, fun μ H => .tup (.inr ⟨_, its, n, e, by rw [h1], rfl, h2, r⟩) (by rw [hl]; exact h2) (q μ H)⟩
      · cases h
    | _ => simp [chkV] at h
  | .ref _, u, h => by cases u <;> simp [chkV] at h
  | .frl _, u, h => by cases u <;> simp [chkV] at h
theorem chkVs_ok {K : PySem.W.Frag} : ∀ (vs : List PV) (us : List Value), chkVs K vs us = true → ∃ ws, Vals ws us ∧ ∀ μ H, RVs K μ H vs ws
  | [], [], _ => ⟨[], .nil, fun _ _ => .nil⟩
  | [], _ :: _, h => by simp [chkVs] at h
  | _ :: _, [], h => by simp [chkVs] at h
  | v :: vs, u :: us, h => by
    simp only [chkVs, Bool.and_eq_true] at h
    obtain ⟨w, r, q⟩ := chkV_ok v u h.1
    obtain ⟨ws, rs, qs⟩ := chkVs_ok vs us h.2
    exact ⟨w :: ws, .cons r rs, fun μ H => .cons (q μ H) (qs μ H)⟩
end
def chkG (K : PySem.W.Frag) (p : Str × PV) : Bool := match PySem.W.nsIn K mainGlobals p.1 with
  | some (some u) => chkV K p.2 u
  | _ => false
theorem chkG_ok {K : PySem.W.Frag} {h : Heap} {mg : Str → Option Value} (X : K.In h) (G : h.Ns mainGlobals mg) {x : Str} {v : PV} (c : chkG K (x, v) = true) : GlV K mg x v := by
  unfold chkG at c
  split at c
  · rename_i u e
    obtain ⟨va, r, q⟩ := chkV_ok v u c
    exact ⟨u, va, PySem.W.mg_of X G e, r, q⟩
  · cases c
/-! ### the law's end -/
theorem walk_ofE2 {l : PySem.W.OpenLaw} {n k : Nat} {q : Program} {loose : List Str} {XP : (Str → Option Value) → Heap → Prop} {YP : World → Heap → Prop} {d : DefRec} {x : Str}
    (hn : l.most = some n) (hn2 : n ≤ sizeLine) (hdf : d.params.defaults = []) (hr : Room k callerA)
    (F : ∀ (w : World) (mg : Str → Option Value) (fa : Addr) (h : Heap), YP w h → h.Ns mainGlobals mg → mg d.name = some (.ref fa) →
      ∃ (K : PySem.W.Frag) (fd : FuncData) (sp : Sp), K.In h ∧ (∀ (s : Shared) (u : Value), BindsTo s fd ⟨[u], []⟩ [(x, u)]) ∧
        (∀ (H : Hp) (a : Addr) (ns : List Int), ns.length ≤ n → Only H → SqL K H a (ns.map V.int) → sp [.ref a] H (fun v _ => v = .bl true) fun _ _ _ => False) ∧
        ∀ base : Heap, K.In base → base.Ns mainGlobals mg → FnOk l.prog w K mg base (L2.CX l.prog w) k fa fd [x] sp) :
    PySem.W.WalkO q loose XP YP l.row.toRowW d [] (fun f vs => PySem.call f vs) := by
  refine Att.attach_call hn hdf fun w s₀ s₁ mg mb fa o pm cd doc a vs ns G Y ho hd hcd hmg hobj hints hlen hg => ?_
  obtain ⟨K, fd, sp, KX, hb, hsp, hF⟩ := F w mg fa _ Y G.T.g hmg
  exact law_call KX G.T.g G.T.b G.T.builtins G.T.nolimit hg hobj hints (Nat.le_trans hlen hn2) hr hF hb (fun H hO hS => hsp H a ns hlen hO hS) fun H e s' h => by
    obtain ⟨_, _, _, _, _, _, _, _, _, _, _, _, q⟩ := h
    exact q
/-- a script of ints as data -/
theorem script_rv {K : PySem.W.Frag} {H : Hp} {a : Addr} {ns : List Int} (hO : Only H) (hS : SqL K H a (ns.map V.int)) (hl : ns.length ≤ 63) (μ : List Addr) : RV K μ H (.frl (ns.map PV.int)) (.ref a) := by
  refine .frl (vs := ns.map V.int) ?_ (by rw [List.length_map, sizeLine_eq]; omega) ?_
  · rcases hS with (h | h) | h
    · rcases hO a with q | ⟨o, xs, q⟩ <;> (rw [q] at h; cases h)
    · exact .inl h
    · exact .inr h
  · clear hS hl
    induction ns with
    | nil => exact .nil
    | cons n ns ih => exact .cons (.int n) ih
/-- the promise of the law, by its worth -/
theorem law_sp {K : PySem.W.Frag} {cm : Str → Value → Prop} {F : FV} (h : ∀ ns : List Int, ns.length ≤ 63 → ∃ S, F [.frl (ns.map .int)] [] = .ok (.bl true) S) {H : Hp} {a : Addr} {ns : List Int} (hl : ns.length ≤ 63) (hO : Only H) (hS : SqL K H a (ns.map V.int)) :
    spF K cm 1 F [.ref a] H (fun v _ => v = .bl true) fun _ _ _ => False := by
  refine ⟨rfl, [], [], [.frl (ns.map .int)], ⟨rfl, List.nodup_nil, fun i a o h => by simp at h⟩, .cons (script_rv hO hS hl []) .nil, ?_⟩
  obtain ⟨S, e⟩ := h ns hl
  rw [e]
  intro μ' H' v _ _ r
  cases r
  rfl
theorem room230 : Room 230 callerA := ⟨rfl, by decide, by decide⟩
end Ev

/-! Fw11: reckoning with worths: one step each, what is thrown away, loops. -/
namespace Ev
open PySem PySem.Spec PyProof.Rows L2
section
variable {ρ : Env'} {S : Store} {a b c : TV} {ta tb tc : TB} {la lb : TL} {es : TVs} {s t : TSt} {i : Nat}
theorem e_var (i : Nat) (ρ : Env') (S : Store) : vVar i ρ S = (match ρ[i]? with | some (some x) => .ok x S | _ => .bad) := rfl
theorem e_c (x : PV) (ρ : Env') (S : Store) : vC x ρ S = .ok x S := rfl
theorem e_str (x : Str) (ρ : Env') (S : Store) : vStr x ρ S = if SOk x then .ok (.str x) S else .bad := rfl
theorem e_bin (f : PV → PV → Store → Option PV) (a b : TV) (ρ : Env') (S : Store) : vBin f a b ρ S = (a ρ S).bind fun x S => (b ρ S).bind fun y S => ofO (f x y S) S := rfl
theorem e_un (f : PV → Store → Option PV) (a : TV) (ρ : Env') (S : Store) : vUn f a ρ S = (a ρ S).bind fun x S => ofO (f x S) S := rfl
theorem e_chn (f g : PV → PV → Store → Option PV) (a b c : TV) (ρ : Env') (S : Store) : vChn f g a b c ρ S = (a ρ S).bind fun x S => (b ρ S).bind fun y S =>
  match f x y S with
  | some (.bl true) => (c ρ S).bind fun z S => ofO (g y z S) S
  | some (.bl false) => .ok (.bl false) S
  | _ => .bad := rfl
theorem e_bV (e : TV) (ρ : Env') (S : Store) : bV e ρ S = (e ρ S).bind fun x S => ofB (truth x S) S := rfl
theorem e_bBl (e : TV) (ρ : Env') (S : Store) : bBl e ρ S = (e ρ S).bind fun x S => match x with
  | .bl b => .ok b S
  | _ => .bad := rfl
theorem e_bAnd (a b : TB) (ρ : Env') (S : Store) : bAnd a b ρ S = (a ρ S).bind fun x S => if x = true then b ρ S else .ok false S := rfl
theorem e_bOr (a b : TB) (ρ : Env') (S : Store) : bOr a b ρ S = (a ρ S).bind fun x S => if x = true then .ok true S else b ρ S := rfl
theorem e_bNot (a : TB) (ρ : Env') (S : Store) : bNot a ρ S = (a ρ S).bind fun x S => .ok (!x) S := rfl
theorem e_bYes (ρ : Env') (S : Store) : bYes ρ S = .ok true S := rfl
theorem e_vAnd (a b : TV) (ρ : Env') (S : Store) : vAnd a b ρ S = (a ρ S).bind fun x S => match x with
  | .bl true => b ρ S
  | .bl false => .ok (.bl false) S
  | _ => .bad := rfl
theorem e_vOr (a b : TV) (ρ : Env') (S : Store) : vOr a b ρ S = (a ρ S).bind fun x S => match x with
  | .bl false => b ρ S
  | .bl true => .ok (.bl true) S
  | _ => .bad := rfl
theorem e_vNot (a : TV) (ρ : Env') (S : Store) : vNot a ρ S = (a ρ S).bind fun x S => match x with
  | .bl b => .ok (.bl (!b)) S
  | _ => .bad := rfl
theorem e_vIf (c : TB) (a b : TV) (ρ : Env') (S : Store) : vIf c a b ρ S = (c ρ S).bind fun x S => if x = true then a ρ S else b ρ S := rfl
theorem e_nil (ρ : Env') (S : Store) : vsNil ρ S = .ok [] S := rfl
theorem e_cons (a : TV) (r : TVs) (ρ : Env') (S : Store) : vsCons a r ρ S = (a ρ S).bind fun x S => (r ρ S).bind fun xs S => .ok (x :: xs) S := rfl
theorem e_tup (es : TVs) (ρ : Env') (S : Store) : vTup es ρ S = (es ρ S).bind fun xs S => if xs.length ≤ sizeLine then .ok (.tup xs) S else .bad := rfl
theorem e_disp (es : TVs) (ρ : Env') (S : Store) : lDisp es ρ S = (es ρ S).bind fun xs S => if xs.length ≤ sizeLine then .ok (xs, none) S else .bad := rfl
theorem e_new (l : TL) (ρ : Env') (S : Store) : vNew l ρ S = (l ρ S).bind fun l S => match l.2 with
  | none => .ok (.ref S.length) (S ++ [.lst l.1])
  | some j => .ok (.ref j) S := rfl
theorem e_oNone (ρ : Env') (S : Store) : oNone ρ S = .ok none S := rfl
theorem e_oSome (e : TV) (ρ : Env') (S : Store) : oSome e ρ S = (e ρ S).bind fun x S => match x with
  | .int i => .ok (some i) S
  | _ => .bad := rfl
theorem e_slc (a : TV) (lo hi : TOv) (ρ : Env') (S : Store) : vSlc a lo hi ρ S = (a ρ S).bind fun x S => (lo ρ S).bind fun l S => (hi ρ S).bind fun h S => match deref S x with
  | .tup xs => .ok (.tup (cutL xs l h)) S
  | .str z => .ok (.str (strCut z l h)) S
  | .frl xs => .ok (.ref S.length) (S ++ [.lst (cutL xs l h)])
  | _ => .bad := rfl
theorem e_lslc (a : TV) (lo hi : TOv) (ρ : Env') (S : Store) : lSlc a lo hi ρ S = (a ρ S).bind fun x S => (lo ρ S).bind fun l S => (hi ρ S).bind fun h S => match deref S x with
  | .frl xs => .ok (cutL xs l h, none) S
  | _ => .bad := rfl
theorem e_call (f : List PV → Store → Option PV) (es : TVs) (ρ : Env') (S : Store) : vCall f es ρ S = (es ρ S).bind fun xs S => ofO (f xs S) S := rfl
theorem e_callL (f : List PV → Option PV) (l : TL) (ρ : Env') (S : Store) : vCallL f l ρ S = (l ρ S).bind fun l S => ofO (f l.1) S := rfl
theorem e_lcallL (f : List PV → Option (List PV)) (l : TL) (ρ : Env') (S : Store) : lCallL f l ρ S = (l ρ S).bind fun l S => match f l.1 with
  | some zs => .ok (zs, none) S
  | none => .bad := rfl
theorem e_lcallN (f : List PV → Store → Option (List PV)) (es : TVs) (ρ : Env') (S : Store) : lCallN f es ρ S = (es ρ S).bind fun xs S => match f xs S with
  | some zs => .ok (zs, none) S
  | none => .bad := rfl
theorem e_isi (T : String) (a : TV) (ρ : Env') (S : Store) : vIsi T a ρ S = (a ρ S).bind fun x S => ofO ((tyN S x).map fun t => .bl (isI t T)) S := rfl
theorem e_app (F : FV) (es : TVs) (ρ : Env') (S : Store) : vApp F es ρ S = (es ρ S).bind fun xs S => F xs S := rfl
theorem e_app0 (F : FV) (ρ : Env') (S : Store) : vApp0 F ρ S = (match F [] S with
  | .ok v S => .ok v S
  | _ => .bad) := rfl
/-- the list that a value names -/
def getL (S : Store) (x : PV) : Option (List PV) := match x with
  | .ref j => match S[j]? with
    | some (.lst xs) => some xs
    | _ => none
  | _ => none
def PV.num : PV → Nat
  | .ref j => j
  | _ => 0
theorem getL_ref {S : Store} {j : Nat} {xs : List PV} (h : S[j]? = some (.lst xs)) : getL S (.ref j) = some xs := by simp only [getL, h]
def ofP {α : Type} (o : Option α) (S : Store) : Res α := match o with
  | some x => .ok x S
  | none => .bad
theorem ofP_some {α : Type} (x : α) (S : Store) : ofP (some x) S = .ok x S := rfl
theorem ofP_none {α : Type} (S : Store) : ofP (none : Option α) S = .bad := rfl
theorem getL_num {S : Store} {x : PV} {xs : List PV} (h : getL S x = some xs) : x = .ref x.num ∧ S[x.num]? = some (.lst xs) := by
  unfold getL at h
  split at h
  · split at h
    · rename_i h1; cases h; exact ⟨rfl, h1⟩
    · cases h
  · cases h
theorem e_lval (e : TV) (ρ : Env') (S : Store) : lVal e ρ S = (e ρ S).bind fun x S => (ofP (getL S x) S).bind fun xs S => .ok (xs, some x.num) S := by
  unfold lVal
  cases h : e ρ S with
  | ok x S1 =>
    simp only [bind_ok]
    cases x with
    | ref j =>
      dsimp only [getL, PV.num]
      cases h2 : S1[j]? with
      | none => rfl
      | some o => cases o <;> rfl
    | _ => rfl
  | _ => rfl
theorem e_cat (a b : TL) (ρ : Env') (S : Store) : lCat a b ρ S = (a ρ S).bind fun l S => (b ρ S).bind fun m S => if lkOk l S ∧ l.1.length + m.1.length ≤ sizeLine then .ok (l.1 ++ m.1, none) S else .bad := rfl
theorem e_eqL (neg : Bool) (a b : TL) (ρ : Env') (S : Store) : vEqL neg a b ρ S = (a ρ S).bind fun l S => (b ρ S).bind fun m S =>
  if lkOk l S then match eqS S (.frl l.1) (.frl m.1) with
    | some k => .ok (.bl (neg != k)) S
    | none => .bad
  else .bad := rfl
theorem e_lm (f : List PV → List PV → Option (PV × List PV)) (o : TV) (es : TVs) (ρ : Env') (S : Store) : vLm f o es ρ S = (o ρ S).bind fun x S => (ofP (getL S x) S).bind fun _ S => (es ρ S).bind fun ys S => (ofP (getL S x) S).bind fun xs S => (ofP (f xs ys) S).bind fun q S => .ok q.1 (S.set x.num (.lst q.2)) := by
  unfold vLm
  cases h : o ρ S with
  | ok x S1 =>
    simp only [bind_ok]
    cases x with
    | ref j =>
      dsimp only [getL, PV.num]
      cases h2 : S1[j]? with
      | none => rfl
      | some ob =>
        cases ob with
        | lst zs =>
          dsimp only
          rw [ofP_some, bind_ok]
          cases h3 : es ρ S1 with
          | ok ys S2 =>
            simp only [bind_ok]
            cases h4 : S2[j]? with
            | none => rfl
            | some ob2 =>
              cases ob2 with
              | lst us =>
                dsimp only
                rw [ofP_some, bind_ok]
                cases f us ys <;> rfl
              | _ => rfl
          | _ => rfl
        | _ => rfl
    | _ => rfl
  | _ => rfl
theorem e_ext (o : TV) (l : TL) (ρ : Env') (S : Store) : vExt o l ρ S = (o ρ S).bind fun x S => (ofP (getL S x) S).bind fun _ S => (l ρ S).bind fun m S => (ofP (getL S x) S).bind fun xs S =>
    if xs.length + m.1.length ≤ sizeLine ∧ m.2 ≠ some x.num then .ok .non (S.set x.num (.lst (xs ++ m.1))) else .bad := by
  unfold vExt
  cases h : o ρ S with
  | ok x S1 =>
    simp only [bind_ok]
    cases x with
    | ref j =>
      dsimp only [getL, PV.num]
      cases h2 : S1[j]? with
      | none => rfl
      | some ob =>
        cases ob with
        | lst zs =>
          dsimp only
          rw [ofP_some, bind_ok]
          cases h3 : l ρ S1 with
          | ok ys S2 =>
            simp only [bind_ok]
            cases h4 : S2[j]? with
            | none => rfl
            | some ob2 => cases ob2 <;> rfl
          | _ => rfl
        | _ => rfl
    | _ => rfl
  | _ => rfl
theorem e_sm (f : Str → List PV → Option PV) (o : TV) (es : TVs) (ρ : Env') (S : Store) : vSm f o es ρ S = (o ρ S).bind fun x S => match x with
  | .str z => (es ρ S).bind fun ys S => ofO (f z ys) S
  | _ => .bad := rfl
theorem e_sm0 (f : Str → Option PV) (o : TV) (ρ : Env') (S : Store) : vSm0 f o ρ S = (o ρ S).bind fun x S => match x with
  | .str z => ofO (f z) S
  | _ => .bad := rfl
theorem e_lsm (f : Str → List PV → Option (List PV)) (o : TV) (es : TVs) (ρ : Env') (S : Store) : lSm f o es ρ S = (o ρ S).bind fun x S => match x with
  | .str z => (es ρ S).bind fun ys S => match f z ys with
    | some zs => .ok (zs, none) S
    | none => .bad
  | _ => .bad := rfl
theorem e_smL (f : Str → List PV → Option PV) (o : TV) (l : TL) (ρ : Env') (S : Store) : vSmL f o l ρ S = (o ρ S).bind fun x S => match x with
  | .str z => (l ρ S).bind fun m S => ofO (f z m.1) S
  | _ => .bad := rfl
theorem e_dic0 (ρ : Env') (S : Store) : vDic0 ρ S = .ok (.ref S.length) (S ++ [.dic []]) := rfl
theorem e_dic1 (a b : TV) (ρ : Env') (S : Store) : vDic1 a b ρ S = (a ρ S).bind fun k S => (b ρ S).bind fun v S => match keyOf k with
  | some k => .ok (.ref S.length) (S ++ [.dic [(k, v)]])
  | none => .bad := rfl
theorem e_iV (e : TV) (ρ : Env') (S : Store) : iV e ρ S = (e ρ S).bind fun x S => match itemsOf x S with
  | some l => .ok l S
  | none => .bad := rfl
theorem e_rng (es : TVs) (ρ : Env') (S : Store) : iRng es ρ S = (es ρ S).bind fun xs S => match xs with
  | [.int j] => if -(2 ^ 62) ≤ j ∧ j ≤ 16777216 then .ok (rangeL 0 j.toNat, none) S else .bad
  | [.int i, .int j] => if -(2 ^ 62) ≤ i ∧ i < 2 ^ 62 ∧ -(2 ^ 62) ≤ j ∧ j < 2 ^ 62 ∧ j - i ≤ 16777216 then .ok (rangeL i (j - i).toNat, none) S else .bad
  | _ => .bad := rfl
theorem e_comp (tg : Tgt) (it : TIt) (c : TB) (el : TV) (vs : List Nat) (ρ : Env') (S : Store) : lComp tg it c el vs ρ S = (it ρ S).bind fun l S => compL tg c el (wipeE ρ vs) l l.1 [] S := rfl
/-! ### statements -/
theorem e_sNil (ρ : Env') (S : Store) : sNil ρ S = .nx ρ S := rfl
theorem e_sPass (ρ : Env') (S : Store) : sPass ρ S = .nx ρ S := rfl
theorem e_sBrk (ρ : Env') (S : Store) : sBrk ρ S = .brk ρ S := rfl
theorem e_sCnt (ρ : Env') (S : Store) : sCnt ρ S = .cnt ρ S := rfl
theorem e_sSeq (a b : TSt) (ρ : Env') (S : Store) : sSeq a b ρ S = (a ρ S).seq b := rfl
theorem seq_nx (ρ : Env') (S : Store) (b : TSt) : (SR.nx ρ S).seq b = b ρ S := rfl
theorem seq_ret (v : PV) (S : Store) (b : TSt) : (SR.ret v S).seq b = .ret v S := rfl
theorem seq_brk (ρ : Env') (S : Store) (b : TSt) : (SR.brk ρ S).seq b = .brk ρ S := rfl
theorem seq_cnt (ρ : Env') (S : Store) (b : TSt) : (SR.cnt ρ S).seq b = .cnt ρ S := rfl
theorem seq_exc (e : PX) (ρ : Env') (S : Store) (b : TSt) : (SR.exc e ρ S).seq b = .exc e ρ S := rfl
theorem seq_bad (b : TSt) : SR.bad.seq b = .bad := rfl
theorem e_sExpr (e : TV) (ρ : Env') (S : Store) : sExpr e ρ S = (e ρ S).sr ρ fun _ S => .nx ρ S := rfl
theorem e_sSet (i : Nat) (e : TV) (ρ : Env') (S : Store) : sSet i e ρ S = (e ρ S).sr ρ fun x S => .nx (ρ.set i (some x)) S := rfl
theorem e_sRet (e : TV) (ρ : Env') (S : Store) : sRet e ρ S = (e ρ S).sr ρ fun x S => .ret x S := rfl
theorem e_sRetN (ρ : Env') (S : Store) : sRetN ρ S = .ret .non S := rfl
theorem e_sIf (c : TB) (a b : TSt) (ρ : Env') (S : Store) : sIf c a b ρ S = (c ρ S).sr ρ fun x S => if x = true then a ρ S else b ρ S := rfl
theorem e_sUnp (tg : Tgt) (e : TV) (ρ : Env') (S : Store) : sUnp tg e ρ S = (e ρ S).sr ρ fun x S => match tg x ρ with
  | some ρ' => .nx ρ' S
  | none => .bad := rfl
theorem e_sSub (o i v : TV) (ρ : Env') (S : Store) : sSub o i v ρ S = (v ρ S).sr ρ fun y S => (o ρ S).sr ρ fun x S => (i ρ S).sr ρ fun k S => match storeAt x k y S with
  | some S' => .nx ρ S'
  | none => .bad := rfl
theorem e_sAug (i : Nat) (f : PV → PV → Store → Option PV) (e : TV) (ρ : Env') (S : Store) : sAug i f e ρ S = (match ρ[i]? with
  | some (some x) => (e ρ S).sr ρ fun y S => match f x y S with
    | some z => .nx (ρ.set i (some z)) S
    | none => .bad
  | _ => .bad) := rfl
theorem e_sFor (tg : Tgt) (it : TIt) (b : TSt) (ρ : Env') (S : Store) : sFor tg it b ρ S = (it ρ S).sr ρ fun l S => forL tg b l l.1 ρ S := rfl
end
/-! ### what a def gives back -/
noncomputable def fin (S : Store) (r : SR) : Res PV := match r with
  | .ret v S' => gcV S v S'
  | .nx _ S' => gcV S .non S'
  | .exc e _ S' => gcX S e S'
  | _ => .bad
theorem fnV_eq (np nl : Nat) (b : TSt) (args : List PV) (S : Store) (h : args.length = np) : fnV np nl b args S = fin S (b (args.map some ++ List.replicate (nl - np) none) S) := by
  unfold fnV fin; rw [if_pos h]; all_goals (cases b (args.map some ++ List.replicate (nl - np) none) S <;> rfl)
@[simp] theorem fin_ret (S : Store) (v : PV) (S' : Store) : fin S (.ret v S') = gcV S v S' := rfl
@[simp] theorem fin_nx (S : Store) (ρ : Env') (S' : Store) : fin S (.nx ρ S') = gcV S .non S' := rfl
theorem gcOk_set (S J : Store) (i : Nat) (o : PObj) (ho : o.low S.length = true) : gcOk S (S.set i o ++ J) := by
  refine ⟨by simp, fun j hj => ?_⟩
  rw [List.getElem?_append_left (by simpa using hj)]
  by_cases h : i = j
  · subst h
    exact .inr ⟨o, List.getElem?_set_self hj, ho⟩
  · exact .inl (List.getElem?_set_ne h)
theorem gcOk_app (S J : Store) : gcOk S (S ++ J) := ⟨by simp, fun j hj => .inl (List.getElem?_append_left hj)⟩
theorem gcV_set (S J : Store) (i : Nat) (o : PObj) (v : PV) (ho : o.low S.length = true) (hv : v.low S.length = true) : gcV S v (S.set i o ++ J) = .ok v (S.set i o) := by
  unfold gcV
  rw [if_pos (gcOk_set S J i o ho), if_pos hv]
  congr 1
  rw [List.take_append_of_le_length (by simp)]
  rw [List.take_of_length_le (by simp)]
theorem gcV_set0 (S : Store) (i : Nat) (o : PObj) (v : PV) (ho : o.low S.length = true) (hv : v.low S.length = true) : gcV S v (S.set i o) = .ok v (S.set i o) := by
  have := gcV_set S [] i o v ho hv
  rwa [List.append_nil] at this
theorem gcV_app (S J : Store) (v : PV) (hv : v.low S.length = true) : gcV S v (S ++ J) = .ok v S := by
  unfold gcV
  rw [if_pos (gcOk_app S J), if_pos hv]
  congr 1
  rw [List.take_append_of_le_length (Nat.le_refl _), List.take_length]
theorem gcV_self (S : Store) (v : PV) (hv : v.low S.length = true) : gcV S v S = .ok v S := by
  have := gcV_app S [] v hv
  rwa [List.append_nil] at this
/-- a new thing is handed back: it stands next -/
theorem gcV_new (S J : Store) (j : Nat) (o : PObj) (hj : S.length ≤ j) (hJ : (S ++ J)[j]? = some o) (ho : o.low S.length = true) : gcV S (.ref j) (S ++ J) = .ok (.ref S.length) (S ++ [o]) := by
  unfold gcV
  have hv : ¬ (PV.ref j).low S.length = true := by simp [PV.low]; omega
  rw [if_pos (gcOk_app S J), if_neg hv]
  dsimp only
  rw [hJ]
  dsimp only
  rw [if_pos ⟨hj, ho⟩]
  congr 2
  rw [List.take_append_of_le_length (Nat.le_refl _), List.take_length]
theorem gcV_setNew (S J : Store) (i j : Nat) (o u : PObj) (hu : u.low S.length = true) (hj : S.length ≤ j) (hJ : (S.set i u ++ J)[j]? = some o) (ho : o.low S.length = true) : gcV S (.ref j) (S.set i u ++ J) = .ok (.ref S.length) (S.set i u ++ [o]) := by
  unfold gcV
  have hv : ¬ (PV.ref j).low S.length = true := by simp [PV.low]; omega
  rw [if_pos (gcOk_set S J i u hu), if_neg hv]
  dsimp only
  rw [hJ]
  dsimp only
  rw [if_pos ⟨hj, ho⟩]
  congr 2
  rw [List.take_append_of_le_length (by simp), List.take_of_length_le (by simp)]
/-! ### data lie low -/
mutual
theorem low_dat (n : Nat) : ∀ x : PV, x.dat = true → x.low n = true
  | .non, _ => rfl
  | .bl _, _ => rfl
  | .int _, _ => rfl
  | .str _, _ => rfl
  | .tup xs, h => lows_dat n xs h
  | .frl xs, h => lows_dat n xs h
  | .ref _, h => by simp [PV.dat] at h
theorem lows_dat (n : Nat) : ∀ xs : List PV, PV.dats xs = true → PV.lows n xs = true
  | [], _ => rfl
  | x :: xs, h => by
    simp only [PV.dats, Bool.and_eq_true] at h
    simp only [PV.lows, low_dat n x h.1, lows_dat n xs h.2, Bool.and_self]
end
theorem dats_iff {xs : List PV} : PV.dats xs = true ↔ ∀ x ∈ xs, x.dat = true := by
  induction xs with
  | nil => simp [PV.dats]
  | cons x xs ih => simp [PV.dats, ih]
theorem lows_iff {n : Nat} {xs : List PV} : PV.lows n xs = true ↔ ∀ x ∈ xs, x.low n = true := by
  induction xs with
  | nil => simp [PV.lows]
  | cons x xs ih => simp [PV.lows, ih]
mutual
theorem low_mono {n m : Nat} (h : n ≤ m) : ∀ x : PV, x.low n = true → x.low m = true
  | .non, _ => rfl
  | .bl _, _ => rfl
  | .int _, _ => rfl
  | .str _, _ => rfl
  | .tup xs, e => lows_mono h xs e
  | .frl xs, e => lows_mono h xs e
  | .ref _, e => by simp [PV.low] at e ⊢; omega
theorem lows_mono {n m : Nat} (h : n ≤ m) : ∀ xs : List PV, PV.lows n xs = true → PV.lows m xs = true
  | [], _ => rfl
  | x :: xs, e => by
    simp only [PV.lows, Bool.and_eq_true] at e
    simp only [PV.lows, low_mono h x e.1, lows_mono h xs e.2, Bool.and_self]
end
/-! ### loops -/
section
variable {tg : Tgt} {b : TSt} {l : LI} {c : TB} {el : TV}
/-- how a turn may end -/
def TurnOk (o : SR) (N : Env' → Store → Prop) (P : SR → Prop) : Prop := match o with
  | .nx ρ S => N ρ S
  | .cnt ρ S => N ρ S
  | .brk ρ S => P (.nx ρ S)
  | .bad => P .bad
  | o => P o
theorem forL_rule (I : List PV → Env' → Store → Prop) (P : SR → Prop) {xs : List PV} {ρ : Env'} {S : Store} (h0 : I xs ρ S)
    (step : ∀ x r ρ S, I (x :: r) ρ S → lkI l S ∧ ∃ ρ1, tg x ρ = some ρ1 ∧ TurnOk (b ρ1 S) (I r) P) (done : ∀ ρ S, I [] ρ S → lkI l S ∧ P (.nx ρ S)) : P (forL tg b l xs ρ S) := by
  induction xs generalizing ρ S with
  | nil =>
    obtain ⟨h1, h2⟩ := done ρ S h0
    unfold forL; rw [if_pos h1]; exact h2
  | cons x r ih =>
    obtain ⟨h1, ρ1, h2, h3⟩ := step x r ρ S h0
    unfold forL
    rw [if_pos h1, h2]
    dsimp only
    unfold TurnOk at h3
    cases hb : b ρ1 S with
    | nx ρ' S' => rw [hb] at h3; exact ih h3
    | cnt ρ' S' => rw [hb] at h3; exact ih h3
    | brk ρ' S' => rw [hb] at h3; exact h3
    | ret v S' => rw [hb] at h3; exact h3
    | exc e ρ' S' => rw [hb] at h3; exact h3
    | bad => rw [hb] at h3; exact h3
theorem lkOk_none (xs : List PV) (S : Store) : lkOk (xs, none) S := trivial
theorem compL_rule (I : List PV → List PV → Store → Prop) (P : Res LL → Prop) {ρ : Env'} {xs acc : List PV} {S : Store} (h0 : I xs acc S)
    (step : ∀ x r acc S, I (x :: r) acc S → lkI l S ∧ ∃ ρ1, tg x ρ = some ρ1 ∧ ∃ k S1, c ρ1 S = .ok k S1 ∧ (k = true → ∃ y S2, el ρ1 S1 = .ok y S2 ∧ I r (acc ++ [y]) S2) ∧ (k = false → I r acc S1)) (done : ∀ acc S, I [] acc S → lkI l S ∧ P (.ok (acc, none) S)) : P (compL tg c el ρ l xs acc S) := by
  induction xs generalizing acc S with
  | nil =>
    obtain ⟨h1, h2⟩ := done acc S h0
    unfold compL; rw [if_pos h1]; exact h2
  | cons x r ih =>
    obtain ⟨h1, ρ1, h2, k, S1, h3, h4, h5⟩ := step x r acc S h0
    unfold compL
    rw [if_pos h1, h2]
    dsimp only
    rw [h3]
    cases k with
    | true =>
      obtain ⟨y, S2, h6, h7⟩ := h4 rfl
      dsimp only
      rw [h6]
      exact ih h7
    | false => exact ih (h5 rfl)
/-- a comprehension that changes nothing -/
theorem compL_pure {ρ : Env'} {S : Store} (p : PV → Bool) (f : PV → PV) (lk : lkI l S) : ∀ (xs acc : List PV), (∀ x ∈ xs, ∃ ρ1, tg x ρ = some ρ1 ∧ c ρ1 S = .ok (p x) S ∧ (p x = true → el ρ1 S = .ok (f x) S)) →
    compL tg c el ρ l xs acc S = .ok (acc ++ (xs.filter p).map f, none) S
  | [], acc, _ => by unfold compL; rw [if_pos lk]; simp
  | x :: r, acc, h => by
    obtain ⟨ρ1, h1, h2, h3⟩ := h x (by simp)
    unfold compL
    rw [if_pos lk, h1]
    dsimp only
    rw [h2]
    cases hp : p x with
    | true =>
      dsimp only
      rw [h3 hp]
      dsimp only
      rw [compL_pure p f lk r _ fun y hy => h y (by simp [hy])]
      simp [hp]
    | false =>
      dsimp only
      rw [compL_pure p f lk r _ fun y hy => h y (by simp [hy])]
      simp [hp]
theorem while_rule {c : TB} {b : TSt} (I : Nat → Env' → Store → Prop) (P : SR → Prop) (step : ∀ m ρ S, I m ρ S → ∃ k S1, c ρ S = .ok k S1 ∧ (k = false → P (.nx ρ S1)) ∧ (k = true → TurnOk (b ρ S1) (fun ρ' S' => ∃ m', m' < m ∧ I m' ρ' S') P)) :
    ∀ (m : Nat) (ρ : Env') (S : Store), I m ρ S → P (sWhile c b ρ S) := by
  intro m
  induction m using Nat.strongRecOn with
  | ind m ih =>
    intro ρ S h
    obtain ⟨k, S1, h1, h2, h3⟩ := step m ρ S h
    rw [sWhile_eq, h1]
    simp only [sr_ok]
    cases k with
    | false => rw [if_neg (by decide)]; exact h2 rfl
    | true =>
      rw [if_pos rfl]
      have h3 := h3 rfl
      unfold TurnOk at h3
      cases hb : b ρ S1 with
      | nx ρ' S' => rw [hb] at h3; obtain ⟨m', hm, hi⟩ := h3; exact ih m' hm ρ' S' hi
      | cnt ρ' S' => rw [hb] at h3; obtain ⟨m', hm, hi⟩ := h3; exact ih m' hm ρ' S' hi
      | brk ρ' S' => rw [hb] at h3; exact h3
      | ret v S' => rw [hb] at h3; exact h3
      | exc e ρ' S' => rw [hb] at h3; exact h3
      | bad => rw [hb] at h3; exact h3
end
theorem x_addI (a b : Int) (S : Store) : oAdd (.int a) (.int b) S = some (.int (a + b)) := rfl
theorem x_addS (a b : Str) (S : Store) : oAdd (.str a) (.str b) S = if a.length + b.length ≤ sizeLine then some (.str (a ++ b)) else none := rfl
theorem x_addT (a b : List PV) (S : Store) : oAdd (.tup a) (.tup b) S = if a.length + b.length ≤ sizeLine then some (.tup (a ++ b)) else none := rfl
theorem x_iadd (a b : Int) (S : Store) : oAddI (.int a) (.int b) S = some (.int (a + b)) := rfl
theorem x_sub (a b : Int) (S : Store) : oSub (.int a) (.int b) S = some (.int (a - b)) := rfl
theorem x_mul (a b : Int) (S : Store) : oMul (.int a) (.int b) S = if (-(2 ^ 64) < a ∧ a < 2 ^ 64) ∨ (-(2 ^ 64) < b ∧ b < 2 ^ 64) then some (.int (a * b)) else none := rfl
theorem x_div (a b : Int) (S : Store) : oDiv (.int a) (.int b) S = if 0 < b ∧ b < 1073741824 then some (.int (a / b)) else none := rfl
theorem x_mod (a b : Int) (S : Store) : oMod (.int a) (.int b) S = if 0 < b then some (.int (a % b)) else none := rfl
theorem x_pow (a b : Int) (S : Store) : oPow (.int a) (.int b) S = if 0 ≤ b ∧ b ≤ 1000000 ∧ a.natAbs < 2 ^ 64 then some (.int (a ^ b.toNat)) else none := rfl
theorem x_neg (a : Int) (S : Store) : oNeg (.int a) S = some (.int (-a)) := rfl
theorem x_ltI (a b : Int) (S : Store) : oLt (.int a) (.int b) S = some (.bl (decide (a < b))) := rfl
theorem x_ltS (a b : Str) (S : Store) : oLt (.str a) (.str b) S = some (.bl (decide (a.cps.toList < b.cps.toList))) := rfl
theorem x_le (a b : Int) (S : Store) : oLe (.int a) (.int b) S = some (.bl (decide (a ≤ b))) := rfl
theorem x_gt (a b : Int) (S : Store) : oGt (.int a) (.int b) S = some (.bl (decide (b < a))) := rfl
theorem x_ge (a b : Int) (S : Store) : oGe (.int a) (.int b) S = some (.bl (decide (b ≤ a))) := rfl
theorem x_is (x : PV) (S : Store) : oIs x .non S = some (.bl x.isNon) := rfl
theorem x_isNot (x : PV) (S : Store) : oIsNot x .non S = some (.bl (!x.isNon)) := rfl
theorem x_idxT (xs : List PV) (k : Int) (S : Store) : oIdx (.tup xs) (.int k) S = atI xs k := rfl
theorem x_idxF (xs : List PV) (k : Int) (S : Store) : oIdx (.frl xs) (.int k) S = atI xs k := rfl
theorem x_idxS (z : Str) (k : Int) (S : Store) : oIdx (.str z) (.int k) S = (atI z.cps.toList k).map fun c => .str ⟨#[c]⟩ := rfl
theorem deref_ref {S : Store} {j : Nat} {xs : List PV} (h : S[j]? = some (.lst xs)) : deref S (.ref j) = .frl xs := by simp only [deref, h]
theorem x_idxR {S : Store} {j : Nat} {xs : List PV} (h : S[j]? = some (.lst xs)) (k : Int) : oIdx (.ref j) (.int k) S = atI xs k := by simp only [oIdx, deref_ref h]
theorem deref_tup (S : Store) (xs : List PV) : deref S (.tup xs) = .tup xs := rfl
theorem deref_str (S : Store) (z : Str) : deref S (.str z) = .str z := rfl
theorem deref_int (S : Store) (z : Int) : deref S (.int z) = .int z := rfl
theorem deref_frl (S : Store) (xs : List PV) : deref S (.frl xs) = .frl xs := rfl
theorem deref_non (S : Store) : deref S .non = .non := rfl
theorem deref_bl (S : Store) (b : Bool) : deref S (.bl b) = .bl b := rfl
theorem x_st {S : Store} {j : Nat} {xs : List PV} (h : S[j]? = some (.lst xs)) (k : Int) (v : PV) : storeAt (.ref j) (.int k) v S = (ixN xs.length k).map fun n => S.set j (.lst (xs.set n v)) := by simp only [storeAt, h]
theorem x_lenT (xs : List PV) (S : Store) : fLen [.tup xs] S = some (.int xs.length) := rfl
theorem x_lenF (xs : List PV) (S : Store) : fLen [.frl xs] S = some (.int xs.length) := rfl
theorem x_lenS (z : Str) (S : Store) : fLen [.str z] S = some (.int z.length) := rfl
theorem x_lenR {S : Store} {j : Nat} {xs : List PV} (h : S[j]? = some (.lst xs)) : fLen [.ref j] S = some (.int xs.length) := by simp only [fLen, deref_ref h]
theorem x_intB (b : Bool) (S : Store) : fInt [.bl b] S = some (.int (if b then 1 else 0)) := rfl
theorem x_intI (b : Int) (S : Store) : fInt [.int b] S = some (.int b) := rfl
theorem x_max (i j : Int) (S : Store) : fMax [.int i, .int j] S = some (.int (if j > i then j else i)) := rfl
theorem x_min (i j : Int) (S : Store) : fMin [.int i, .int j] S = some (.int (if j < i then j else i)) := rfl
theorem x_tupT (xs : List PV) (S : Store) : fTup [.tup xs] S = some (.tup xs) := rfl
theorem x_tupR {S : Store} {j : Nat} {xs : List PV} (h : S[j]? = some (.lst xs)) : fTup [.ref j] S = some (.tup xs) := by simp only [fTup, deref_ref h]
theorem x_listT (xs : List PV) (S : Store) : fList [.tup xs] S = some xs := rfl
theorem x_listR {S : Store} {j : Nat} {xs : List PV} (h : S[j]? = some (.lst xs)) : fList [.ref j] S = some xs := by simp only [fList, deref_ref h]
theorem x_append (xs : List PV) (y : PV) : mAppend xs [y] = if xs.length < sizeLine then some (.non, xs ++ [y]) else none := rfl
theorem x_eq (x y : PV) (S : Store) : oEq x y S = (eqS S x y).map .bl := rfl
theorem x_ne (x y : PV) (S : Store) : oNe x y S = (eqS S x y).map fun b => .bl (!b) := rfl
theorem x_in (x y : PV) (S : Store) : oIn x y S = (inS S x y).map .bl := rfl
theorem x_notIn (x y : PV) (S : Store) : oNotIn x y S = (inS S x y).map fun b => .bl (!b) := rfl
theorem eqS_dat {S : Store} {x y : PV} (h1 : (deref S x).dat = true) (h2 : (deref S y).dat = true) (h3 : (deref S x).dep ≤ deepest) : eqS S x y = some (PV.eqv (deref S x) (deref S y)) := by
  unfold eqS; rw [if_pos ⟨h1, h2, h3⟩]
theorem eqS_str (S : Store) (a b : Str) : eqS S (.str a) (.str b) = some (a == b) := eqS_dat rfl rfl (Nat.zero_le _)
theorem eqS_int (S : Store) (a b : Int) : eqS S (.int a) (.int b) = some (a == b) := eqS_dat rfl rfl (Nat.zero_le _)
theorem eqS_bl (S : Store) (a b : Bool) : eqS S (.bl a) (.bl b) = some (a == b) := eqS_dat rfl rfl (Nat.zero_le _)
theorem at0 {α : Type} (x : α) (r : List α) : atI (x :: r) 0 = some x := atI_nat (j := 0) rfl
theorem at1 {α : Type} (x y : α) (r : List α) : atI (x :: y :: r) 1 = some y := atI_nat (j := 1) rfl
theorem at2 {α : Type} (x y z : α) (r : List α) : atI (x :: y :: z :: r) 2 = some z := atI_nat (j := 2) rfl
theorem at3 {α : Type} (x y z u : α) (r : List α) : atI (x :: y :: z :: u :: r) 3 = some u := atI_nat (j := 3) rfl
/-- an index that lies in the list -/
theorem atI_in {α : Type} {xs : List α} {k : Int} (h0 : 0 ≤ k) (h1 : k < xs.length) : ∃ x, atI xs k = some x ∧ xs[k.toNat]? = some x := by
  have hk : k.toNat < xs.length := by omega
  refine ⟨xs[k.toNat], ?_, List.getElem?_eq_getElem hk⟩
  unfold atI ixN
  rw [if_pos h0, if_pos h1]
  exact List.getElem?_eq_getElem hk
theorem set_app {α : Type} (S J : List α) (o u : α) : (S ++ o :: J).set S.length u = S ++ u :: J := by simp
theorem get_app {α : Type} (S J : List α) (o : α) : (S ++ o :: J)[S.length]? = some o := by simp
theorem get_app_lt {α : Type} {S J : List α} {i : Nat} {o : α} (h : S[i]? = some o) : (S ++ J)[i]? = some o := by
  rw [List.getElem?_append_left (List.getElem?_eq_some_iff.mp h).1]; exact h
theorem set_app_lt {α : Type} {S J : List α} {i : Nat} {o u : α} (h : S[i]? = some o) : (S ++ J).set i u = S.set i u ++ J := by
  rw [List.set_append, if_pos (List.getElem?_eq_some_iff.mp h).1]
theorem get_set {α : Type} {S : List α} {i : Nat} {o u : α} (h : S[i]? = some o) : (S.set i u)[i]? = some u := List.getElem?_set_self (List.getElem?_eq_some_iff.mp h).1
theorem sizeLine_ge {n : Nat} (h : n ≤ 16777216) : n ≤ sizeLine := by rw [sizeLine_eq]; exact h
theorem sizeLine_gt {n : Nat} (h : n < 16777216) : n < sizeLine := by rw [sizeLine_eq]; exact h
end Ev

/-! Fw12: what a step must lead to, rule by rule. -/
namespace Ev
open PySem PySem.Spec PyProof.Rows L2
def W {α : Type} (r : Res α) (Q : α → Store → Prop) (E : PX → Store → Prop) : Prop := match r with
  | .ok a S => Q a S
  | .exc e S => E e S
  | .bad => False
def WS (r : SR) (Q : SR → Prop) : Prop := Q r
def Op {α : Type} (o : Option α) (Q : α → Prop) : Prop := match o with
  | some x => Q x
  | none => False
def Br (x : Bool) (A B : Prop) : Prop := (x = true → A) ∧ (x = false → B)
def IsB (x : PV) (Q : Bool → Prop) : Prop := match x with
  | .bl b => Q b
  | _ => False
def IsI (x : PV) (Q : Int → Prop) : Prop := match x with
  | .int b => Q b
  | _ => False
def IsS (x : PV) (Q : Str → Prop) : Prop := match x with
  | .str b => Q b
  | _ => False
theorem Op.of {α : Type} {o : Option α} {Q : α → Prop} {x : α} (h : o = some x) (q : Q x) : Op o Q := by subst h; exact q
theorem Br.tt {A B : Prop} (a : A) : Br true A B := ⟨fun _ => a, fun h => Bool.noConfusion h⟩
theorem Br.ff {A B : Prop} (a : B) : Br false A B := ⟨fun h => Bool.noConfusion h, fun _ => a⟩
theorem Br.nf {A B : Prop} (a : A) : Br (!false) A B := .tt a
theorem Br.nt {A B : Prop} (a : B) : Br (!true) A B := .ff a
theorem Br.of_tt {x : Bool} {A B : Prop} (h : x = true) (a : A) : Br x A B := by subst h; exact .tt a
theorem Br.of_ff {x : Bool} {A B : Prop} (h : x = false) (a : B) : Br x A B := by subst h; exact .ff a
theorem Br.ndec {p : Prop} [Decidable p] {A B : Prop} (a : ¬ p → A) (b : p → B) : Br (!decide p) A B := by
  by_cases h : p
  · exact .of_ff (by simp [h]) (b h)
  · exact .of_tt (by simp [h]) (a h)
theorem Br.dec {p : Prop} [Decidable p] {A B : Prop} (a : p → A) (b : ¬ p → B) : Br (decide p) A B := ⟨fun h => a (of_decide_eq_true h), fun h => b (of_decide_eq_false h)⟩
section
variable {α β : Type} {Q : α → Store → Prop} {E : PX → Store → Prop} {r : Res β} {S : Store} {ρ : Env'}
theorem W_bind {f : β → Store → Res α} (h : W r (fun a S => W (f a S) Q E) E) : W (r.bind f) Q E := by
  cases r with
  | ok a S => exact h
  | exc e S => exact h
  | bad => exact h
theorem WS_sr {Q : SR → Prop} {f : β → Store → SR} (h : W r (fun a S => WS (f a S) Q) (fun e S => Q (.exc e ρ S))) : WS (r.sr ρ f) Q := by
  cases r with
  | ok a S => exact h
  | exc e S => exact h
  | bad => exact h.elim
theorem W_mono {Q' : β → Store → Prop} {Q : β → Store → Prop} {E E' : PX → Store → Prop} (h : W r Q' E') (q : ∀ a S, Q' a S → Q a S) (e : ∀ x S, E' x S → E x S) : W r Q E := by
  cases r with
  | ok a S => exact q _ _ h
  | exc e' S => exact e _ _ h
  | bad => exact h
theorem W.ok {Q : β → Store → Prop} (h : W r Q (fun _ _ => False)) : ∃ a S, r = .ok a S ∧ Q a S := by
  cases r with
  | ok a S => exact ⟨a, S, rfl, h⟩
  | exc e S => exact h.elim
  | bad => exact h.elim
end
theorem W_ofO {o : Option PV} {S : Store} {Q : PV → Store → Prop} {E : PX → Store → Prop} (h : Op o fun z => Q z S) : W (ofO o S) Q E := by
  cases o with
  | some x => exact h
  | none => exact h
theorem W_ofB {o : Option Bool} {S : Store} {Q : Bool → Store → Prop} {E : PX → Store → Prop} (h : Op o fun z => Q z S) : W (ofB o S) Q E := by
  cases o with
  | some x => exact h
  | none => exact h
theorem W_ofP {α : Type} {o : Option α} {S : Store} {Q : α → Store → Prop} {E : PX → Store → Prop} (h : Op o fun z => Q z S) : W (ofP o S) Q E := by
  cases o with
  | some x => exact h
  | none => exact h
def LNew (l : LL) (S : Store) (Q : PV → Store → Prop) : Prop := match l.2 with
  | none => Q (.ref S.length) (S ++ [.lst l.1])
  | some j => Q (.ref j) S
def SlcR (x : PV) (l h : Option Int) (S : Store) (Q : PV → Store → Prop) : Prop := match deref S x with
  | .tup xs => Q (.tup (cutL xs l h)) S
  | .str z => Q (.str (strCut z l h)) S
  | .frl xs => Q (.ref S.length) (S ++ [.lst (cutL xs l h)])
  | _ => False
def LSlcR (x : PV) (l h : Option Int) (S : Store) (Q : LL → Store → Prop) : Prop := match deref S x with
  | .frl xs => Q (cutL xs l h, none) S
  | _ => False
def RngR (xs : List PV) (Q : LI → Prop) : Prop := match xs with
  | [.int j] => (-(2 ^ 62) ≤ j ∧ j ≤ 16777216) ∧ Q (rangeL 0 j.toNat, none)
  | [.int i, .int j] => (-(2 ^ 62) ≤ i ∧ i < 2 ^ 62 ∧ -(2 ^ 62) ≤ j ∧ j < 2 ^ 62 ∧ j - i ≤ 16777216) ∧ Q (rangeL i (j - i).toNat, none)
  | _ => False
inductive GetR : Env' → Nat → PV → Prop
  | zero {x : PV} {ρ : Env'} : GetR (some x :: ρ) 0 x
  | succ {a : Option PV} {ρ : Env'} {i : Nat} {x : PV} (h : GetR ρ i x) : GetR (a :: ρ) (i + 1) x
theorem GetR.eq {ρ : Env'} {i : Nat} {x : PV} (h : GetR ρ i x) : ρ[i]? = some (some x) := by
  induction h with
  | zero => rfl
  | succ h ih => exact ih
/-! ### expressions -/
section
variable {Q : PV → Store → Prop} {QB : Bool → Store → Prop} {QL : LL → Store → Prop} {QA : List PV → Store → Prop} {QO : Option Int → Store → Prop} {E : PX → Store → Prop} {ρ : Env'} {S : Store} {a b c e o : TV} {ta tb : TB} {la lb l : TL} {es : TVs} {lo hi : TOv}
theorem w_var {i : Nat} {x : PV} (h : ρ[i]? = some (some x)) (q : Q x S) : W (vVar i ρ S) Q E := by unfold vVar; rw [h]; exact q
theorem w_get {i : Nat} {x : PV} (h : GetR ρ i x) (q : Q x S) : W (vVar i ρ S) Q E := w_var h.eq q
theorem w_c {x : PV} (q : Q x S) : W (vC x ρ S) Q E := q
theorem w_str {x : Str} (h : SOk x) (q : Q (.str x) S) : W (vStr x ρ S) Q E := by unfold vStr; rw [if_pos h]; exact q
theorem w_bin {f : PV → PV → Store → Option PV} (h : W (a ρ S) (fun x S => W (b ρ S) (fun y S => Op (f x y S) fun z => Q z S) E) E) : W (vBin f a b ρ S) Q E :=
  W_bind (W_mono h (fun _ _ h => W_bind (W_mono h (fun _ _ h => W_ofO h) fun _ _ h => h)) fun _ _ h => h)
theorem w_un {f : PV → Store → Option PV} (h : W (a ρ S) (fun x S => Op (f x S) fun z => Q z S) E) : W (vUn f a ρ S) Q E :=
  W_bind (W_mono h (fun _ _ h => W_ofO h) fun _ _ h => h)
theorem w_chn {f g : PV → PV → Store → Option PV} (h : W (a ρ S) (fun x S => W (b ρ S) (fun y S => Op (f x y S) fun u => IsB u fun k => Br k (W (c ρ S) (fun z S => Op (g y z S) fun u => Q u S) E) (Q (.bl false) S)) E) E) : W (vChn f g a b c ρ S) Q E := by
  refine W_bind (W_mono h (fun x S h => W_bind (W_mono h (fun y S h => ?_) fun _ _ h => h)) fun _ _ h => h)
  cases hf : f x y S with
  | none => rw [hf] at h; exact h.elim
  | some u =>
    rw [hf] at h
    cases u with
    | bl k =>
      cases k with
      | true => exact W_bind (W_mono (h.1 rfl) (fun _ _ h => W_ofO h) fun _ _ h => h)
      | false => exact h.2 rfl
    | _ => exact h.elim
theorem w_bV (h : W (e ρ S) (fun x S => Op (truth x S) fun k => QB k S) E) : W (bV e ρ S) QB E := W_bind (W_mono h (fun _ _ h => W_ofB h) fun _ _ h => h)
theorem w_bBl (h : W (e ρ S) (fun x S => IsB x fun k => QB k S) E) : W (bBl e ρ S) QB E := by
  refine W_bind (W_mono h (fun x S h => ?_) fun _ _ h => h)
  cases x with
  | bl k => exact h
  | _ => exact h.elim
theorem w_bAnd (h : W (ta ρ S) (fun x S => Br x (W (tb ρ S) QB E) (QB false S)) E) : W (bAnd ta tb ρ S) QB E := by
  refine W_bind (W_mono h (fun x S h => ?_) fun _ _ h => h)
  cases x with
  | true => exact h.1 rfl
  | false => exact h.2 rfl
theorem w_bOr (h : W (ta ρ S) (fun x S => Br x (QB true S) (W (tb ρ S) QB E)) E) : W (bOr ta tb ρ S) QB E := by
  refine W_bind (W_mono h (fun x S h => ?_) fun _ _ h => h)
  cases x with
  | true => exact h.1 rfl
  | false => exact h.2 rfl
theorem w_bNot (h : W (ta ρ S) (fun x S => QB (!x) S) E) : W (bNot ta ρ S) QB E := W_bind h
theorem w_bYes (h : QB true S) : W (bYes ρ S) QB E := h
theorem w_vAnd (h : W (a ρ S) (fun x S => IsB x fun k => Br k (W (b ρ S) Q E) (Q (.bl false) S)) E) : W (vAnd a b ρ S) Q E := by
  refine W_bind (W_mono h (fun x S h => ?_) fun _ _ h => h)
  cases x with
  | bl k =>
    cases k with
    | true => exact h.1 rfl
    | false => exact h.2 rfl
  | _ => exact h.elim
theorem w_vOr (h : W (a ρ S) (fun x S => IsB x fun k => Br k (Q (.bl true) S) (W (b ρ S) Q E)) E) : W (vOr a b ρ S) Q E := by
  refine W_bind (W_mono h (fun x S h => ?_) fun _ _ h => h)
  cases x with
  | bl k =>
    cases k with
    | true => exact h.1 rfl
    | false => exact h.2 rfl
  | _ => exact h.elim
theorem w_vNot (h : W (a ρ S) (fun x S => IsB x fun k => Q (.bl (!k)) S) E) : W (vNot a ρ S) Q E := by
  refine W_bind (W_mono h (fun x S h => ?_) fun _ _ h => h)
  cases x with
  | bl k => exact h
  | _ => exact h.elim
theorem w_vIf (h : W (ta ρ S) (fun x S => Br x (W (a ρ S) Q E) (W (b ρ S) Q E)) E) : W (vIf ta a b ρ S) Q E := by
  refine W_bind (W_mono h (fun x S h => ?_) fun _ _ h => h)
  cases x with
  | true => exact h.1 rfl
  | false => exact h.2 rfl
theorem w_nil (h : QA [] S) : W (vsNil ρ S) QA E := h
theorem w_cons (h : W (a ρ S) (fun x S => W (es ρ S) (fun xs S => QA (x :: xs) S) E) E) : W (vsCons a es ρ S) QA E :=
  W_bind (W_mono h (fun _ _ h => W_bind h) fun _ _ h => h)
theorem w_tup (h : W (es ρ S) (fun xs S => xs.length ≤ sizeLine ∧ Q (.tup xs) S) E) : W (vTup es ρ S) Q E :=
  W_bind (W_mono h (fun x S h => by rw [if_pos h.1]; exact h.2) fun _ _ h => h)
theorem w_disp (h : W (es ρ S) (fun xs S => xs.length ≤ sizeLine ∧ QL (xs, none) S) E) : W (lDisp es ρ S) QL E :=
  W_bind (W_mono h (fun x S h => by rw [if_pos h.1]; exact h.2) fun _ _ h => h)
theorem w_new (h : W (l ρ S) (fun l S => LNew l S Q) E) : W (vNew l ρ S) Q E := by
  refine W_bind (W_mono h (fun l S h => ?_) fun _ _ h => h)
  obtain ⟨xs, n⟩ := l
  cases n <;> exact h
theorem lnew {xs : List PV} (h : Q (.ref S.length) (S ++ [.lst xs])) : LNew (xs, none) S Q := h
theorem w_oNone (h : QO none S) : W (oNone ρ S) QO E := h
theorem w_oSome (h : W (e ρ S) (fun x S => IsI x fun i => QO (some i) S) E) : W (oSome e ρ S) QO E := by
  refine W_bind (W_mono h (fun x S h => ?_) fun _ _ h => h)
  cases x with
  | int k => exact h
  | _ => exact h.elim
theorem w_slc (h : W (a ρ S) (fun x S => W (lo ρ S) (fun l S => W (hi ρ S) (fun h S => SlcR x l h S Q) E) E) E) : W (vSlc a lo hi ρ S) Q E := by
  refine W_bind (W_mono h (fun x S h => W_bind (W_mono h (fun l S h => W_bind (W_mono h (fun h S k => ?_) fun _ _ h => h)) fun _ _ h => h)) fun _ _ h => h)
  unfold SlcR at k
  split at k <;> simp_all only [W]
theorem w_lslc (h : W (a ρ S) (fun x S => W (lo ρ S) (fun l S => W (hi ρ S) (fun h S => LSlcR x l h S QL) E) E) E) : W (lSlc a lo hi ρ S) QL E := by
  refine W_bind (W_mono h (fun x S h => W_bind (W_mono h (fun l S h => W_bind (W_mono h (fun h S k => ?_) fun _ _ h => h)) fun _ _ h => h)) fun _ _ h => h)
  unfold LSlcR at k
  split at k <;> simp_all only [W]
theorem slcT {xs : List PV} {l h : Option Int} (q : Q (.tup (cutL xs l h)) S) : SlcR (.tup xs) l h S Q := q
theorem slcS {z : Str} {l h : Option Int} (q : Q (.str (strCut z l h)) S) : SlcR (.str z) l h S Q := q
theorem slcR {j : Nat} {xs : List PV} {l h : Option Int} (g : S[j]? = some (.lst xs)) (q : Q (.ref S.length) (S ++ [.lst (cutL xs l h)])) : SlcR (.ref j) l h S Q := by
  unfold SlcR; rw [deref_ref g]; exact q
theorem lslcR {j : Nat} {xs : List PV} {l h : Option Int} (g : S[j]? = some (.lst xs)) (q : QL (cutL xs l h, none) S) : LSlcR (.ref j) l h S QL := by
  unfold LSlcR; rw [deref_ref g]; exact q
theorem w_call {f : List PV → Store → Option PV} (h : W (es ρ S) (fun xs S => Op (f xs S) fun u => Q u S) E) : W (vCall f es ρ S) Q E := W_bind (W_mono h (fun _ _ h => W_ofO h) fun _ _ h => h)
theorem w_callL {f : List PV → Option PV} (h : W (l ρ S) (fun l S => Op (f l.1) fun u => Q u S) E) : W (vCallL f l ρ S) Q E := W_bind (W_mono h (fun _ _ h => W_ofO h) fun _ _ h => h)
theorem w_lcallL {f : List PV → Option (List PV)} (h : W (l ρ S) (fun l S => Op (f l.1) fun u => QL (u, none) S) E) : W (lCallL f l ρ S) QL E := by
  refine W_bind (W_mono h (fun l S h => ?_) fun _ _ h => h)
  cases hf : f l.1 with
  | none => rw [hf] at h; exact h.elim
  | some u => rw [hf] at h; exact h
theorem w_lcallN {f : List PV → Store → Option (List PV)} (h : W (es ρ S) (fun xs S => Op (f xs S) fun u => QL (u, none) S) E) : W (lCallN f es ρ S) QL E := by
  refine W_bind (W_mono h (fun l S h => ?_) fun _ _ h => h)
  cases hf : f l S with
  | none => rw [hf] at h; exact h.elim
  | some u => rw [hf] at h; exact h
theorem w_isi {T : String} (h : W (a ρ S) (fun x S => Op (tyN S x) fun t => Q (.bl (isI t T)) S) E) : W (vIsi T a ρ S) Q E := by
  refine W_bind (W_mono h (fun x S h => W_ofO ?_) fun _ _ h => h)
  cases hf : tyN S x with
  | none => rw [hf] at h; exact h.elim
  | some u => rw [hf] at h; exact h
theorem w_app {F : FV} (h : W (es ρ S) (fun xs S => W (F xs S) Q E) E) : W (vApp F es ρ S) Q E := W_bind h
theorem w_app0 {F : FV} (h : W (F [] S) Q fun _ _ => False) : W (vApp0 F ρ S) Q E := by
  rw [e_app0]
  cases hf : F [] S with
  | ok v S => rw [hf] at h; exact h
  | exc e S => rw [hf] at h; exact h.elim
  | bad => rw [hf] at h; exact h.elim
theorem w_lval (h : W (e ρ S) (fun x S => Op (getL S x) fun xs => QL (xs, some x.num) S) E) : W (lVal e ρ S) QL E := by
  rw [e_lval]
  exact W_bind (W_mono h (fun _ _ h => W_bind (W_ofP h)) fun _ _ h => h)
theorem w_cat (h : W (la ρ S) (fun l S => W (lb ρ S) (fun m S => lkOk l S ∧ l.1.length + m.1.length ≤ sizeLine ∧ QL (l.1 ++ m.1, none) S) E) E) : W (lCat la lb ρ S) QL E := by
  rw [e_cat]
  exact W_bind (W_mono h (fun _ _ h => W_bind (W_mono h (fun _ _ h => by rw [if_pos ⟨h.1, h.2.1⟩]; exact h.2.2) fun _ _ h => h)) fun _ _ h => h)
theorem w_eqL {neg : Bool} (h : W (la ρ S) (fun l S => W (lb ρ S) (fun m S => lkOk l S ∧ Op (eqS S (.frl l.1) (.frl m.1)) fun k => Q (.bl (neg != k)) S) E) E) : W (vEqL neg la lb ρ S) Q E := by
  rw [e_eqL]
  refine W_bind (W_mono h (fun l S h => W_bind (W_mono h (fun m S h => ?_) fun _ _ h => h)) fun _ _ h => h)
  rw [if_pos h.1]
  have h := h.2
  cases hf : eqS S (.frl l.1) (.frl m.1) with
  | none => rw [hf] at h; exact h.elim
  | some u => rw [hf] at h; exact h
theorem w_lm {f : List PV → List PV → Option (PV × List PV)} (h : W (o ρ S) (fun x S => Op (getL S x) fun _ => W (es ρ S) (fun ys S => Op (getL S x) fun xs => Op (f xs ys) fun q => Q q.1 (S.set x.num (.lst q.2))) E) E) : W (vLm f o es ρ S) Q E := by
  rw [e_lm]
  refine W_bind (W_mono h (fun x S h => W_bind (W_ofP ?_)) fun _ _ h => h)
  cases hg : getL S x with
  | none => rw [hg] at h; exact h.elim
  | some u =>
    rw [hg] at h
    exact W_bind (W_mono h (fun _ _ h => W_bind (W_ofP (by
      cases hg2 : getL _ x with
      | none => rw [hg2] at h; exact h.elim
      | some u => rw [hg2] at h; exact W_bind (W_ofP h)))) fun _ _ h => h)
theorem w_ext (h : W (o ρ S) (fun x S => Op (getL S x) fun _ => W (l ρ S) (fun m S => Op (getL S x) fun xs => (xs.length + m.1.length ≤ sizeLine ∧ m.2 ≠ some x.num) ∧ Q .non (S.set x.num (.lst (xs ++ m.1)))) E) E) : W (vExt o l ρ S) Q E := by
  rw [e_ext]
  refine W_bind (W_mono h (fun x S h => W_bind (W_ofP ?_)) fun _ _ h => h)
  cases hg : getL S x with
  | none => rw [hg] at h; exact h.elim
  | some u =>
    rw [hg] at h
    exact W_bind (W_mono h (fun _ _ h => W_bind (W_ofP (by
      cases hg2 : getL _ x with
      | none => rw [hg2] at h; exact h.elim
      | some u => rw [hg2] at h; show W (if _ then _ else _) _ _; rw [if_pos h.1]; exact h.2))) fun _ _ h => h)
theorem w_sm {f : Str → List PV → Option PV} (h : W (o ρ S) (fun x S => IsS x fun z => W (es ρ S) (fun ys S => Op (f z ys) fun u => Q u S) E) E) : W (vSm f o es ρ S) Q E := by
  refine W_bind (W_mono h (fun x S h => ?_) fun _ _ h => h)
  cases x with
  | str z => exact W_bind (W_mono h (fun _ _ h => W_ofO h) fun _ _ h => h)
  | _ => exact h.elim
theorem w_sm0 {f : Str → Option PV} (h : W (o ρ S) (fun x S => IsS x fun z => Op (f z) fun u => Q u S) E) : W (vSm0 f o ρ S) Q E := by
  refine W_bind (W_mono h (fun x S h => ?_) fun _ _ h => h)
  cases x with
  | str z => exact W_ofO h
  | _ => exact h.elim
theorem w_lsm {f : Str → List PV → Option (List PV)} (h : W (o ρ S) (fun x S => IsS x fun z => W (es ρ S) (fun ys S => Op (f z ys) fun u => QL (u, none) S) E) E) : W (lSm f o es ρ S) QL E := by
  refine W_bind (W_mono h (fun x S h => ?_) fun _ _ h => h)
  cases x with
  | str z =>
    refine W_bind (W_mono h (fun ys S h => ?_) fun _ _ h => h)
    cases hf : f z ys with
    | none => rw [hf] at h; exact h.elim
    | some u => rw [hf] at h; exact h
  | _ => exact h.elim
theorem w_smL {f : Str → List PV → Option PV} (h : W (o ρ S) (fun x S => IsS x fun z => W (l ρ S) (fun m S => Op (f z m.1) fun u => Q u S) E) E) : W (vSmL f o l ρ S) Q E := by
  refine W_bind (W_mono h (fun x S h => ?_) fun _ _ h => h)
  cases x with
  | str z => exact W_bind (W_mono h (fun _ _ h => W_ofO h) fun _ _ h => h)
  | _ => exact h.elim
theorem w_dic0 (h : Q (.ref S.length) (S ++ [.dic []])) : W (vDic0 ρ S) Q E := h
theorem w_dic1 (h : W (a ρ S) (fun k S => W (b ρ S) (fun v S => Op (keyOf k) fun k => Q (.ref S.length) (S ++ [.dic [(k, v)]])) E) E) : W (vDic1 a b ρ S) Q E := by
  refine W_bind (W_mono h (fun x S h => W_bind (W_mono h (fun y S h => ?_) fun _ _ h => h)) fun _ _ h => h)
  cases hf : keyOf x with
  | none => rw [hf] at h; exact h.elim
  | some u => rw [hf] at h; exact h
theorem w_iV {QI : LI → Store → Prop} (h : W (e ρ S) (fun x S => Op (itemsOf x S) fun l => QI l S) E) : W (iV e ρ S) QI E := by
  refine W_bind (W_mono h (fun x S h => ?_) fun _ _ h => h)
  cases hf : itemsOf x S with
  | none => rw [hf] at h; exact h.elim
  | some u => rw [hf] at h; exact h
/-- a list that is walked -/
def IL (l : LL) (S : Store) (Q : LI → Store → Prop) : Prop := match l.2 with
  | none => Q (l.1, none) S
  | some j => Q (l.1, some (.one j l.1)) S
theorem w_iL {QI : LI → Store → Prop} (h : W (l ρ S) (fun l S => IL l S QI) E) : W (iL l ρ S) QI E := by
  refine W_bind (W_mono h (fun l S h => ?_) fun _ _ h => h)
  obtain ⟨xs, n⟩ := l
  cases n <;> exact h
theorem il_none {xs : List PV} {QI : LI → Store → Prop} (q : QI (xs, none) S) : IL (xs, none) S QI := q
theorem il_some {xs : List PV} {j : Nat} {QI : LI → Store → Prop} (q : QI (xs, some (.one j xs)) S) : IL (xs, some j) S QI := q
theorem w_rng {QI : LI → Store → Prop} (h : W (es ρ S) (fun xs S => RngR xs fun l => QI l S) E) : W (iRng es ρ S) QI E := by
  refine W_bind (W_mono h (fun x S h => ?_) fun _ _ h => h)
  unfold RngR at h
  split at h
  · (try dsimp only); rw [if_pos h.1]; exact h.2
  · (try dsimp only); rw [if_pos h.1]; exact h.2
  · exact h.elim
theorem rng1 {j : Int} {Q : LI → Prop} (h : -(2 ^ 62) ≤ j ∧ j ≤ 16777216) (q : Q (rangeL 0 j.toNat, none)) : RngR [.int j] Q := ⟨h, q⟩
theorem rng2 {i j : Int} {Q : LI → Prop} (h : -(2 ^ 62) ≤ i ∧ i < 2 ^ 62 ∧ -(2 ^ 62) ≤ j ∧ j < 2 ^ 62 ∧ j - i ≤ 16777216) (q : Q (rangeL i (j - i).toNat, none)) : RngR [.int i, .int j] Q := ⟨h, q⟩
theorem w_comp {it : TIt} {tg : Tgt} {vs : List Nat} (h : W (it ρ S) (fun l S => W (compL tg ta e (wipeE ρ vs) l l.1 [] S) QL E) E) : W (lComp tg it ta e vs ρ S) QL E := W_bind h
end
/-! ### statements -/
inductive SetR : Env' → Nat → (PV → Env') → Prop
  | zero {a : Option PV} {ρ : Env'} : SetR (a :: ρ) 0 fun x => some x :: ρ
  | succ {a : Option PV} {ρ : Env'} {i : Nat} {f : PV → Env'} (h : SetR ρ i f) : SetR (a :: ρ) (i + 1) fun x => a :: f x
theorem SetR.eq {ρ : Env'} {i : Nat} {f : PV → Env'} (h : SetR ρ i f) (x : PV) : ρ.set i (some x) = f x := by
  induction h with
  | zero => rfl
  | succ h ih => simp only [List.set_cons_succ, ih]
section
variable {Q : SR → Prop} {ρ : Env'} {S : Store} {e o i v : TV} {ta tb : TB} {l : TL} {a b : TSt}
theorem s_nil (q : Q (.nx ρ S)) : WS (sNil ρ S) Q := q
theorem s_pass (q : Q (.nx ρ S)) : WS (sPass ρ S) Q := q
theorem s_brk (q : Q (.brk ρ S)) : WS (sBrk ρ S) Q := q
theorem s_cnt (q : Q (.cnt ρ S)) : WS (sCnt ρ S) Q := q
theorem s_seq (q : WS (a ρ S) fun r => WS (r.seq b) Q) : WS (sSeq a b ρ S) Q := q
theorem s_seqN (q : WS (a ρ S) Q) : WS (sSeq a sNil ρ S) Q := by
  show Q ((a ρ S).seq sNil)
  have e : (a ρ S).seq sNil = a ρ S := by cases a ρ S <;> rfl
  rw [e]; exact q
theorem q_nx (q : WS (b ρ S) Q) : WS ((SR.nx ρ S).seq b) Q := q
theorem q_ret {v : PV} (q : Q (.ret v S)) : WS ((SR.ret v S).seq b) Q := q
theorem q_brk (q : Q (.brk ρ S)) : WS ((SR.brk ρ S).seq b) Q := q
theorem q_cnt (q : Q (.cnt ρ S)) : WS ((SR.cnt ρ S).seq b) Q := q
theorem q_exc {x : PX} (q : Q (.exc x ρ S)) : WS ((SR.exc x ρ S).seq b) Q := q
theorem s_expr (q : W (e ρ S) (fun _ S => Q (.nx ρ S)) fun x S => Q (.exc x ρ S)) : WS (sExpr e ρ S) Q := WS_sr q
theorem s_set {i : Nat} {f : PV → Env'} (h : SetR ρ i f) (q : W (e ρ S) (fun x S => Q (.nx (f x) S)) fun x S => Q (.exc x ρ S)) : WS (sSet i e ρ S) Q := by
  refine WS_sr (W_mono q (fun x S q => ?_) fun _ _ q => q)
  rw [h.eq]; exact q
theorem s_ret (q : W (e ρ S) (fun x S => Q (.ret x S)) fun x S => Q (.exc x ρ S)) : WS (sRet e ρ S) Q := WS_sr q
theorem s_retN (q : Q (.ret .non S)) : WS (sRetN ρ S) Q := q
theorem s_if (q : W (ta ρ S) (fun x S => Br x (WS (a ρ S) Q) (WS (b ρ S) Q)) fun x S => Q (.exc x ρ S)) : WS (sIf ta a b ρ S) Q := by
  refine WS_sr (W_mono q (fun x S q => ?_) fun _ _ q => q)
  cases x with
  | true => exact q.1 rfl
  | false => exact q.2 rfl
theorem s_unp {tg : Tgt} (q : W (e ρ S) (fun x S => Op (tg x ρ) fun ρ' => Q (.nx ρ' S)) fun x S => Q (.exc x ρ S)) : WS (sUnp tg e ρ S) Q := by
  refine WS_sr (W_mono q (fun x S q => ?_) fun _ _ q => q)
  cases hf : tg x ρ with
  | none => rw [hf] at q; exact q.elim
  | some u => rw [hf] at q; exact q
theorem s_sub (q : W (v ρ S) (fun y S => W (o ρ S) (fun x S => W (i ρ S) (fun k S => Op (storeAt x k y S) fun S' => Q (.nx ρ S')) fun x S => Q (.exc x ρ S)) fun x S => Q (.exc x ρ S)) fun x S => Q (.exc x ρ S)) : WS (sSub o i v ρ S) Q := by
  refine WS_sr (W_mono q (fun y S q => WS_sr (W_mono q (fun x S q => WS_sr (W_mono q (fun k S q => ?_) fun _ _ q => q)) fun _ _ q => q)) fun _ _ q => q)
  cases hf : storeAt x k y S with
  | none => rw [hf] at q; exact q.elim
  | some u => rw [hf] at q; exact q
theorem s_aug {i : Nat} {f : PV → PV → Store → Option PV} {x : PV} {g : PV → Env'} (h : ρ[i]? = some (some x)) (h2 : SetR ρ i g) (q : W (e ρ S) (fun y S => Op (f x y S) fun z => Q (.nx (g z) S)) fun x S => Q (.exc x ρ S)) : WS (sAug i f e ρ S) Q := by
  rw [e_sAug, h]
  refine WS_sr (W_mono q (fun y S q => ?_) fun _ _ q => q)
  cases hf : f x y S with
  | none => rw [hf] at q; exact q.elim
  | some u => rw [hf] at q; show Q (.nx (ρ.set i (some u)) S); rw [h2.eq]; exact q
theorem s_for {it : TIt} {tg : Tgt} (q : W (it ρ S) (fun l S => WS (forL tg b l l.1 ρ S) Q) fun x S => Q (.exc x ρ S)) : WS (sFor tg it b ρ S) Q := WS_sr q
/-- a loop over a list that isn't in the store, or that stays -/
theorem s_loop {tg : Tgt} {l : LI} (I : List PV → Env' → Store → Prop) (h0 : I l.1 ρ S)
    (step : ∀ x r ρ S, I (x :: r) ρ S → lkI l S ∧ Op (tg x ρ) fun ρ1 => WS (b ρ1 S) fun o => TurnOk o (I r) Q) (done : ∀ ρ S, I [] ρ S → lkI l S ∧ Q (.nx ρ S)) : WS (forL tg b l l.1 ρ S) Q := by
  refine forL_rule (P := Q) I h0 (fun x r ρ S h => ?_) done
  obtain ⟨h1, h2⟩ := step x r ρ S h
  refine ⟨h1, ?_⟩
  cases hf : tg x ρ with
  | none => rw [hf] at h2; exact h2.elim
  | some u => rw [hf] at h2; exact ⟨u, rfl, h2⟩
theorem s_while (I : Nat → Env' → Store → Prop) (m : Nat) (h0 : I m ρ S) (step : ∀ m ρ S, I m ρ S → W (ta ρ S) (fun k S1 => Br k (WS (b ρ S1) fun o => TurnOk o (fun ρ' S' => ∃ m', m' < m ∧ I m' ρ' S') Q) (Q (.nx ρ S1))) fun _ _ => False) : WS (sWhile ta b ρ S) Q := by
  refine while_rule (P := Q) I (fun m ρ S h => ?_) m ρ S h0
  obtain ⟨k, S1, h1, h2⟩ := W.ok (step m ρ S h)
  exact ⟨k, S1, h1, h2.2, h2.1⟩
theorem t_n {n : Nat} {f : PV → Env'} {x : PV} {P : Env' → Prop} (h : SetR ρ n f) (q : P (f x)) : Op (tgN n x ρ) P := by
  show P (ρ.set n (some x)); rw [h.eq]; exact q
end
theorem w_turns {tg : Tgt} {c : TB} {el : TV} {ρ : Env'} {S : Store} {l : LI} {Q : LL → Store → Prop} {E : PX → Store → Prop} (I : List PV → List PV → Store → Prop) (h0 : I l.1 [] S)
    (step : ∀ x r acc S, I (x :: r) acc S → lkI l S ∧ Op (tg x ρ) fun ρ1 => W (c ρ1 S) (fun k S1 => Br k (W (el ρ1 S1) (fun y S2 => I r (acc ++ [y]) S2) fun _ _ => False) (I r acc S1)) fun _ _ => False) (done : ∀ acc S, I [] acc S → lkI l S ∧ Q (acc, none) S) : W (compL tg c el ρ l l.1 [] S) Q E := by
  refine compL_rule (P := fun r => W r Q E) I h0 (fun x r acc S h => ?_) done
  obtain ⟨h1, h2⟩ := step x r acc S h
  refine ⟨h1, ?_⟩
  cases hf : tg x ρ with
  | none => rw [hf] at h2; exact h2.elim
  | some u =>
    rw [hf] at h2
    obtain ⟨k, S1, h3, h4⟩ := W.ok h2
    refine ⟨u, rfl, k, S1, h3, fun hk => ?_, h4.2⟩
    obtain ⟨y, S2, h5, h6⟩ := W.ok (h4.1 hk)
    exact ⟨y, S2, h5, h6⟩
/-- a comprehension that changes nothing -/
theorem w_pure {tg : Tgt} {c : TB} {el : TV} {ρ : Env'} {S : Store} {l : LI} {Q : LL → Store → Prop} {E : PX → Store → Prop} (p : PV → Bool) (f : PV → PV) (lk : lkI l S)
    (h : ∀ x ∈ l.1, Op (tg x ρ) fun ρ1 => W (c ρ1 S) (fun k S1 => (k = p x ∧ S1 = S) ∧ (p x = true → W (el ρ1 S) (fun y S2 => y = f x ∧ S2 = S) fun _ _ => False)) fun _ _ => False) (q : Q ((l.1.filter p).map f, none) S) : W (compL tg c el ρ l l.1 [] S) Q E := by
  rw [compL_pure p f lk l.1 [] fun x hx => ?_]
  · exact q
  · have h := h x hx
    cases hf : tg x ρ with
    | none => rw [hf] at h; exact h.elim
    | some u =>
      rw [hf] at h
      obtain ⟨k, S1, h3, ⟨rfl, rfl⟩, h4⟩ := W.ok h
      refine ⟨u, rfl, h3, fun hp => ?_⟩
      obtain ⟨y, S2, h5, rfl, rfl⟩ := W.ok (h4 hp)
      exact h5
theorem w_pureY {tg : Tgt} {el : TV} {ρ : Env'} {S : Store} {l : LI} {Q : LL → Store → Prop} {E : PX → Store → Prop} (f : PV → PV) (lk : lkI l S)
    (h : ∀ x ∈ l.1, Op (tg x ρ) fun ρ1 => W (el ρ1 S) (fun y S2 => y = f x ∧ S2 = S) fun _ _ => False) (q : Q (l.1.map f, none) S) : W (compL tg bYes el ρ l l.1 [] S) Q E := by
  refine w_pure (fun _ => true) f lk (fun x hx => ?_) ?_
  · have h := h x hx
    cases hf : tg x ρ with
    | none => rw [hf] at h; exact h.elim
    | some u => rw [hf] at h; exact ⟨⟨rfl, rfl⟩, fun _ => h⟩
  · rw [List.filter_eq_self.mpr (fun _ _ => rfl)]; exact q
/-! ### operations -/
section
variable {P : PV → Prop} {S : Store}
theorem o_addI {a b : Int} (q : P (.int (a + b))) : Op (oAdd (.int a) (.int b) S) P := q
theorem o_addS {a b : Str} (h : a.length + b.length ≤ sizeLine) (q : P (.str (a ++ b))) : Op (oAdd (.str a) (.str b) S) P := Op.of (by rw [x_addS, if_pos h]) q
theorem o_addT {a b : List PV} (h : a.length + b.length ≤ sizeLine) (q : P (.tup (a ++ b))) : Op (oAdd (.tup a) (.tup b) S) P := Op.of (by rw [x_addT, if_pos h]) q
theorem o_iadd {a b : Int} (q : P (.int (a + b))) : Op (oAddI (.int a) (.int b) S) P := q
theorem o_sub {a b : Int} (q : P (.int (a - b))) : Op (oSub (.int a) (.int b) S) P := q
theorem o_mul {a b : Int} (h : (-(2 ^ 64) < a ∧ a < 2 ^ 64) ∨ (-(2 ^ 64) < b ∧ b < 2 ^ 64)) (q : P (.int (a * b))) : Op (oMul (.int a) (.int b) S) P := Op.of (by rw [x_mul, if_pos h]) q
theorem o_div {a b : Int} (h : 0 < b ∧ b < 1073741824) (q : P (.int (a / b))) : Op (oDiv (.int a) (.int b) S) P := Op.of (by rw [x_div, if_pos h]) q
theorem o_mod {a b : Int} (h : 0 < b) (q : P (.int (a % b))) : Op (oMod (.int a) (.int b) S) P := Op.of (by rw [x_mod, if_pos h]) q
theorem o_pow {a b : Int} (h : 0 ≤ b ∧ b ≤ 1000000 ∧ a.natAbs < 2 ^ 64) (q : P (.int (a ^ b.toNat))) : Op (oPow (.int a) (.int b) S) P := Op.of (by rw [x_pow, if_pos h]) q
theorem o_neg {a : Int} (q : P (.int (-a))) : Op (oNeg (.int a) S) P := q
theorem o_ltI {a b : Int} (q : P (.bl (decide (a < b)))) : Op (oLt (.int a) (.int b) S) P := q
theorem o_le {a b : Int} (q : P (.bl (decide (a ≤ b)))) : Op (oLe (.int a) (.int b) S) P := q
theorem o_gt {a b : Int} (q : P (.bl (decide (b < a)))) : Op (oGt (.int a) (.int b) S) P := q
theorem o_ge {a b : Int} (q : P (.bl (decide (b ≤ a)))) : Op (oGe (.int a) (.int b) S) P := q
theorem o_is {x : PV} (q : P (.bl x.isNon)) : Op (oIs x .non S) P := q
theorem o_isNot {x : PV} (q : P (.bl (!x.isNon))) : Op (oIsNot x .non S) P := q
theorem o_idxT {xs : List PV} {k : Int} {y : PV} (h : atI xs k = some y) (q : P y) : Op (oIdx (.tup xs) (.int k) S) P := Op.of h q
theorem o_idxR {j : Nat} {xs : List PV} {k : Int} {y : PV} (g : S[j]? = some (.lst xs)) (h : atI xs k = some y) (q : P y) : Op (oIdx (.ref j) (.int k) S) P := Op.of (by rw [x_idxR g]; exact h) q
theorem o_idxS {z : Str} {k : Int} {y : Nat} (h : atI z.cps.toList k = some y) (q : P (.str ⟨#[y]⟩)) : Op (oIdx (.str z) (.int k) S) P := Op.of (by rw [x_idxS, h]; rfl) q
theorem o_st {P : Store → Prop} {j n : Nat} {xs : List PV} {k : Int} {v : PV} (g : S[j]? = some (.lst xs)) (h : ixN xs.length k = some n) (q : P (S.set j (.lst (xs.set n v)))) : Op (storeAt (.ref j) (.int k) v S) P := Op.of (by rw [x_st g, h]; rfl) q
theorem o_lenT {xs : List PV} (q : P (.int xs.length)) : Op (fLen [.tup xs] S) P := q
theorem o_lenF {xs : List PV} (q : P (.int xs.length)) : Op (fLen [.frl xs] S) P := q
theorem o_lenS {z : Str} (q : P (.int z.length)) : Op (fLen [.str z] S) P := q
theorem o_lenR {j : Nat} {xs : List PV} (g : S[j]? = some (.lst xs)) (q : P (.int xs.length)) : Op (fLen [.ref j] S) P := Op.of (x_lenR g) q
theorem o_intB {b : Bool} (q : P (.int (if b then 1 else 0))) : Op (fInt [.bl b] S) P := q
theorem o_intI {b : Int} (q : P (.int b)) : Op (fInt [.int b] S) P := q
theorem o_max {i j : Int} (q : P (.int (if j > i then j else i))) : Op (fMax [.int i, .int j] S) P := q
theorem o_min {i j : Int} (q : P (.int (if j < i then j else i))) : Op (fMin [.int i, .int j] S) P := q
theorem o_tupT {xs : List PV} (q : P (.tup xs)) : Op (fTup [.tup xs] S) P := q
theorem o_tupR {j : Nat} {xs : List PV} (g : S[j]? = some (.lst xs)) (q : P (.tup xs)) : Op (fTup [.ref j] S) P := Op.of (x_tupR g) q
theorem o_listR {P : List PV → Prop} {j : Nat} {xs : List PV} (g : S[j]? = some (.lst xs)) (q : P xs) : Op (fList [.ref j] S) P := Op.of (x_listR g) q
theorem o_getL {P : List PV → Prop} {j : Nat} {xs : List PV} (g : S[j]? = some (.lst xs)) (q : P xs) : Op (getL S (.ref j)) P := Op.of (getL_ref g) q
theorem o_app {P : PV × List PV → Prop} {xs : List PV} {y : PV} (h : xs.length < sizeLine) (q : P (.non, xs ++ [y])) : Op (mAppend xs [y]) P := Op.of (by rw [x_append, if_pos h]) q
theorem o_eq {x y : PV} {k : Bool} (h : eqS S x y = some k) (q : P (.bl k)) : Op (oEq x y S) P := Op.of (by rw [x_eq, h]; rfl) q
theorem o_ne {x y : PV} {k : Bool} (h : eqS S x y = some k) (q : P (.bl (!k))) : Op (oNe x y S) P := Op.of (by rw [x_ne, h]; rfl) q
theorem o_eqI {a b : Int} (q : P (.bl (a == b))) : Op (oEq (.int a) (.int b) S) P := o_eq (eqS_int S a b) q
theorem o_eqS {a b : Str} (q : P (.bl (a == b))) : Op (oEq (.str a) (.str b) S) P := o_eq (eqS_str S a b) q
theorem o_eqB {a b : Bool} (q : P (.bl (a == b))) : Op (oEq (.bl a) (.bl b) S) P := o_eq (eqS_bl S a b) q
theorem o_in {x y : PV} {k : Bool} (h : inS S x y = some k) (q : P (.bl k)) : Op (oIn x y S) P := Op.of (by rw [x_in, h]; rfl) q
theorem o_notIn {x y : PV} {k : Bool} (h : inS S x y = some k) (q : P (.bl (!k))) : Op (oNotIn x y S) P := Op.of (by rw [x_notIn, h]; rfl) q
theorem b_is {k : Bool} {R : Bool → Prop} (q : R k) : IsB (.bl k) R := q
theorem i_is {k : Int} {R : Int → Prop} (q : R k) : IsI (.int k) R := q
theorem s_is {k : Str} {R : Str → Prop} (q : R k) : IsS (.str k) R := q
theorem i_tup {P : LI → Prop} {xs : List PV} (q : P (xs, none)) : Op (itemsOf (.tup xs) S) P := q
theorem i_str {P : LI → Prop} {z : Str} (q : P (z.cps.toList.map fun c => .str ⟨#[c]⟩, none)) : Op (itemsOf (.str z) S) P := q
theorem i_ref {P : LI → Prop} {j : Nat} {xs : List PV} (g : S[j]? = some (.lst xs)) (q : P (xs, some (.one j xs))) : Op (itemsOf (.ref j) S) P := Op.of (by simp only [itemsOf, g]) q
theorem tr_bl {R : Bool → Prop} {k : Bool} (q : R k) : Op (truth (.bl k) S) R := q
theorem ty_bl {R : String → Prop} {k : Bool} (q : R "bool") : Op (tyN S (.bl k)) R := q
theorem ty_str {R : String → Prop} {k : Str} (q : R "str") : Op (tyN S (.str k)) R := q
theorem ty_tup {R : String → Prop} {k : List PV} (q : R "tuple") : Op (tyN S (.tup k)) R := q
theorem ty_int {R : String → Prop} {k : Int} (q : R "int") : Op (tyN S (.int k)) R := q
theorem k_s {R : Key → Prop} {k : Str} (q : R (.inr k)) : Op (keyOf (.str k)) R := q
theorem k_i {R : Key → Prop} {k : Int} (q : R (.inl k)) : Op (keyOf (.int k)) R := q
end
/-! ### what stays -/
/-- things come, none changes -/
structure Kp (S S' : Store) : Prop where
  le : S.length ≤ S'.length
  get : ∀ j, j < S.length → S'[j]? = S[j]?
theorem Kp.refl (S : Store) : Kp S S := ⟨Nat.le_refl _, fun _ _ => rfl⟩
theorem Kp.app (S J : Store) : Kp S (S ++ J) := ⟨by simp, fun j hj => List.getElem?_append_left hj⟩
theorem Kp.trans {S T U : Store} (a : Kp S T) (b : Kp T U) : Kp S U := ⟨Nat.le_trans a.le b.le, fun j hj => (b.get j (Nat.lt_of_lt_of_le hj a.le)).trans (a.get j hj)⟩
theorem Kp.take {S S' : Store} (k : Kp S S') : S'.take S.length = S := by
  refine List.ext_getElem? fun i => ?_
  by_cases h : i < S.length
  · rw [List.getElem?_take_of_lt h, k.get i h]
  · rw [List.getElem?_eq_none_iff.mpr (by simp; omega), List.getElem?_eq_none_iff.mpr (by omega)]
theorem lt_of_get {S : Store} {j : Nat} {o : PObj} (h : S[j]? = some o) : j < S.length := (List.getElem?_eq_some_iff.mp h).1
theorem Kp.at {S S' : Store} (k : Kp S S') {j : Nat} {o : PObj} (h : S[j]? = some o) : S'[j]? = some o := (k.get j (lt_of_get h)).trans h
/-- things come; i changes, and stays as P has it -/
structure Fr (P : PObj → Prop) (i : Nat) (S S' : Store) : Prop where
  le : S.length ≤ S'.length
  get : ∀ j, j < S.length → j ≠ i → S'[j]? = S[j]?
  own : ∃ o, S'[i]? = some o ∧ P o
section
variable {P : PObj → Prop} {i : Nat} {S S' T U : Store}
theorem Kp.fr (k : Kp S S') (h : ∃ o, S[i]? = some o ∧ P o) : Fr P i S S' := ⟨k.le, fun j hj _ => k.get j hj, by obtain ⟨o, h, p⟩ := h; exact ⟨o, k.at h, p⟩⟩
theorem Fr.trans (a : Fr P i S T) (b : Fr P i T U) : Fr P i S U := ⟨Nat.le_trans a.le b.le, fun j hj hi => (b.get j (Nat.lt_of_lt_of_le hj a.le) hi).trans (a.get j hj hi), b.own⟩
theorem Fr.kp (a : Fr P i S T) (k : Kp T U) : Fr P i S U := a.trans (k.fr a.own)
theorem Fr.set {o o' : PObj} (h : S[i]? = some o) (p : P o') : Fr P i S (S.set i o') := ⟨by simp, fun j hj hi => List.getElem?_set_ne (Ne.symm hi), o', get_set h, p⟩
theorem Fr.of {j : Nat} {o : PObj} (a : Fr P i S T) (h : S[j]? = some o) (hi : j ≠ i) : T[j]? = some o := (a.get j (lt_of_get h) hi).trans h
/-- a later thing is set -/
theorem Fr.setL (a : Fr P i S T) {j : Nat} (hj : S.length ≤ j) (hi : j ≠ i) (o : PObj) : Fr P i S (T.set j o) := by
  refine ⟨by simp [a.le], fun k hk hki => ?_, ?_⟩
  · rw [List.getElem?_set_ne (by omega)]; exact a.get k hk hki
  · obtain ⟨o', h, p⟩ := a.own
    exact ⟨o', by rw [List.getElem?_set_ne hi]; exact h, p⟩
theorem Kp.setL (a : Kp S T) {j : Nat} (hj : S.length ≤ j) (o : PObj) : Kp S (T.set j o) := by
  refine ⟨by simp [a.le], fun k hk => ?_⟩
  rw [List.getElem?_set_ne (by omega)]; exact a.get k hk
theorem Fr.gc (a : Fr P i S T) (hl : ∀ o n, P o → o.low n = true) : gcOk S T := ⟨a.le, fun j hj => by
  by_cases h : j = i
  · subst h
    obtain ⟨o, h, p⟩ := a.own
    exact .inr ⟨o, h, hl o _ p⟩
  · exact .inl (a.get j hj h)⟩
theorem Kp.gc (a : Kp S T) : gcOk S T := ⟨a.le, fun j hj => .inl (a.get j hj)⟩
theorem Fr.cut (a : Fr P i S T) (hi : i < S.length) : Fr P i S (T.take S.length) := by
  refine ⟨by simp [a.le], fun j hj h => ?_, ?_⟩
  · rw [List.getElem?_take_of_lt hj]; exact a.get j hj h
  · obtain ⟨o, h, p⟩ := a.own
    exact ⟨o, by rw [List.getElem?_take_of_lt hi]; exact h, p⟩
end
/-! ### what a def gives back -/
section
variable {P : PObj → Prop} {i : Nat} {S T : Store} {Q : PV → Store → Prop} {E : PX → Store → Prop} {v : PV}
theorem f_ret (h : W (gcV S v T) Q E) : W (fin S (.ret v T)) Q E := h
theorem f_nx {ρ : Env'} (h : W (gcV S .non T) Q E) : W (fin S (.nx ρ T)) Q E := h
theorem f_body {b : TSt} {ρ : Env'} (h : WS (b ρ S) fun r => W (fin S r) Q E) : W (fin S (b ρ S)) Q E := h
/-- nothing changed -/
theorem g_keep (k : Kp S T) (hv : v.low S.length = true) (q : Q v S) : W (gcV S v T) Q E := by
  unfold gcV
  rw [if_pos k.gc, if_pos hv, k.take]; exact q
theorem g_new (k : Kp S T) {j : Nat} {o : PObj} (hj : S.length ≤ j) (h : T[j]? = some o) (ho : o.low S.length = true) (q : Q (.ref S.length) (S ++ [o])) : W (gcV S (.ref j) T) Q E := by
  unfold gcV
  have hv : ¬ (PV.ref j).low S.length = true := by simp [PV.low]; omega
  rw [if_pos k.gc, if_neg hv]
  dsimp only
  rw [h]
  dsimp only
  rw [if_pos ⟨hj, ho⟩, k.take]; exact q
theorem g_fr (a : Fr P i S T) (hl : ∀ o n, P o → o.low n = true) (hi : i < S.length) (hv : v.low S.length = true) (q : ∀ U, Fr P i S U → U.length = S.length → Q v U) : W (gcV S v T) Q E := by
  unfold gcV
  rw [if_pos (a.gc hl), if_pos hv]
  exact q _ (a.cut hi) (by simp only [List.length_take]; have := a.le; omega)
theorem g_frNew (a : Fr P i S T) (hl : ∀ o n, P o → o.low n = true) (hi : i < S.length) {j : Nat} {o : PObj} (hj : S.length ≤ j) (h : T[j]? = some o) (ho : o.low S.length = true) (q : ∀ U, Fr P i S U → U.length = S.length + 1 → U[S.length]? = some o → Q (.ref S.length) U) : W (gcV S (.ref j) T) Q E := by
  unfold gcV
  have hv : ¬ (PV.ref j).low S.length = true := by simp [PV.low]; omega
  rw [if_pos (a.gc hl), if_neg hv]
  dsimp only
  rw [h]
  dsimp only
  rw [if_pos ⟨hj, ho⟩]
  have hlen : (T.take S.length).length = S.length := by simp only [List.length_take]; have := a.le; omega
  refine q _ ((a.cut hi).trans ((Kp.app _ _).fr (a.cut hi).own)) (by simp [hlen]) ?_
  rw [List.getElem?_append_right (by omega), hlen, Nat.sub_self]; rfl
/-- whatever comes back: it has the types that it had -/
theorem g_any (a : Fr P i S T) (hl : ∀ o n, P o → o.low n = true) (hi : i < S.length) (q1 : v.low S.length = true → ∀ U, Fr P i S U → Kp U T → Q v U) (q2 : ∀ (j : Nat) (o : PObj), v = .ref j → T[j]? = some o → ∀ U, Fr P i S U → U.length = S.length + 1 → U[S.length]? = some o → Q (.ref S.length) U) (q3 : Q v T) : W (gcV S v T) Q E := by
  unfold gcV
  rw [if_pos (a.gc hl)]
  by_cases hv : v.low S.length = true
  · rw [if_pos hv]
    refine q1 hv _ (a.cut hi) ⟨by simp; omega, fun j hj => ?_⟩
    have hj : j < S.length := by simp at hj; omega
    rw [List.getElem?_take_of_lt hj]
  · rw [if_neg hv]
    cases v with
    | ref j =>
      dsimp only
      cases h : T[j]? with
      | none => exact q3
      | some o =>
        dsimp only
        by_cases hc : S.length ≤ j ∧ o.low S.length = true
        · rw [if_pos hc]
          have hlen : (T.take S.length).length = S.length := by simp only [List.length_take]; have := a.le; omega
          refine q2 j o rfl h _ ((a.cut hi).trans ((Kp.app _ _).fr (a.cut hi).own)) (by simp [hlen]) ?_
          rw [List.getElem?_append_right (by omega), hlen, Nat.sub_self]; rfl
        · rw [if_neg hc]; exact q3
    | _ => exact q3
end
/-! ### walking -/
local macro_rules | `(tactic| walk_at "w") => `(tactic| first
  | (with_reducible apply s_set; focus (repeat first | exact SetR.zero | apply SetR.succ))
  | (with_reducible apply w_get; focus (repeat first | exact GetR.zero | apply GetR.succ))
  | with_reducible first
  | refine s_seqN ?_ | refine s_seq ?_ | refine q_nx ?_ | refine q_ret ?_ | refine q_brk ?_ | refine q_cnt ?_ | refine q_exc ?_
  | refine s_nil ?_ | refine s_pass ?_ | refine s_brk ?_ | refine s_cnt ?_ | refine s_expr ?_ | refine s_ret ?_ | refine s_retN ?_ | refine s_if ?_ | refine s_unp ?_ | refine s_sub ?_ | refine s_for ?_
  | refine w_c ?_ | (refine w_str ?_ ?_; decide +kernel) | refine w_bin ?_ | refine w_un ?_ | refine w_chn ?_ | refine w_bV ?_ | refine w_bBl ?_ | refine w_bAnd ?_ | refine w_bOr ?_ | refine w_bNot ?_ | refine w_bYes ?_
  | refine w_vAnd ?_ | refine w_vOr ?_ | refine w_vNot ?_ | refine w_vIf ?_ | refine w_nil ?_ | refine w_cons ?_ | refine w_tup ?_ | refine w_disp ?_ | refine w_new ?_ | refine lnew ?_ | refine w_oNone ?_ | refine w_oSome ?_ | refine w_slc ?_ | refine w_lslc ?_ | refine slcT ?_ | refine slcS ?_
  | refine w_call ?_ | refine w_callL ?_ | refine w_lcallL ?_ | refine w_lcallN ?_ | refine w_isi ?_ | refine w_app ?_ | refine w_app0 ?_ | refine w_lval ?_ | refine w_cat ?_ | refine w_eqL ?_ | refine w_lm ?_ | refine w_ext ?_ | refine w_sm ?_ | refine w_sm0 ?_ | refine w_lsm ?_ | refine w_smL ?_ | refine w_dic0 ?_ | refine w_dic1 ?_ | refine w_iV ?_ | refine w_iL ?_ | refine il_none ?_ | refine il_some ?_ | refine w_rng ?_ | refine w_comp ?_ | refine w_rev ?_ | refine w_lenSet ?_ | refine w_extV ?_
  | refine o_addI ?_ | refine o_iadd ?_ | refine o_sub ?_ | refine o_neg ?_ | refine o_ltI ?_ | refine o_le ?_ | refine o_gt ?_ | refine o_ge ?_ | refine o_is ?_ | refine o_isNot ?_ | refine o_lenT ?_ | refine o_lenF ?_ | refine o_lenS ?_ | refine o_intB ?_ | refine o_intI ?_ | refine o_max ?_ | refine o_min ?_ | refine o_tupT ?_ | refine o_eqI ?_ | refine o_eqS ?_ | refine o_eqB ?_
  | refine b_is ?_ | refine i_is ?_ | refine s_is ?_ | refine i_tup ?_ | refine i_str ?_ | refine tr_bl ?_ | refine ty_bl ?_ | refine ty_str ?_ | refine ty_tup ?_ | refine ty_int ?_ | refine k_s ?_ | refine k_i ?_
  | refine Br.tt ?_ | refine Br.ff ?_ | refine Br.nf ?_ | refine Br.nt ?_ | refine f_ret ?_ | refine f_nx ?_ | refine f_body ?_)
end Ev

/-! Fw13: the small defs that every law carries. -/
namespace Ev
open PySem PySem.Spec PyProof.Rows L2
local macro_rules | `(tactic| walk_at "w") => `(tactic| first
  | (with_reducible apply s_set; focus (repeat first | exact SetR.zero | apply SetR.succ))
  | (with_reducible apply w_get; focus (repeat first | exact GetR.zero | apply GetR.succ))
  | with_reducible first
  | refine s_seqN ?_ | refine s_seq ?_ | refine q_nx ?_ | refine q_ret ?_ | refine q_brk ?_ | refine q_cnt ?_ | refine q_exc ?_
  | refine s_nil ?_ | refine s_pass ?_ | refine s_brk ?_ | refine s_cnt ?_ | refine s_expr ?_ | refine s_ret ?_ | refine s_retN ?_ | refine s_if ?_ | refine s_unp ?_ | refine s_sub ?_ | refine s_for ?_
  | refine w_c ?_ | (refine w_str ?_ ?_; decide +kernel) | refine w_bin ?_ | refine w_un ?_ | refine w_chn ?_ | refine w_bV ?_ | refine w_bBl ?_ | refine w_bAnd ?_ | refine w_bOr ?_ | refine w_bNot ?_ | refine w_bYes ?_
  | refine w_vAnd ?_ | refine w_vOr ?_ | refine w_vNot ?_ | refine w_vIf ?_ | refine w_nil ?_ | refine w_cons ?_ | refine w_tup ?_ | refine w_disp ?_ | refine w_new ?_ | refine lnew ?_ | refine w_oNone ?_ | refine w_oSome ?_ | refine w_slc ?_ | refine w_lslc ?_ | refine slcT ?_ | refine slcS ?_
  | refine w_call ?_ | refine w_callL ?_ | refine w_lcallL ?_ | refine w_lcallN ?_ | refine w_isi ?_ | refine w_app ?_ | refine w_app0 ?_ | refine w_lval ?_ | refine w_cat ?_ | refine w_eqL ?_ | refine w_lm ?_ | refine w_ext ?_ | refine w_sm ?_ | refine w_sm0 ?_ | refine w_lsm ?_ | refine w_smL ?_ | refine w_dic0 ?_ | refine w_dic1 ?_ | refine w_iV ?_ | refine w_iL ?_ | refine il_none ?_ | refine il_some ?_ | refine w_rng ?_ | refine w_comp ?_ | refine w_rev ?_ | refine w_lenSet ?_ | refine w_extV ?_
  | refine o_addI ?_ | refine o_iadd ?_ | refine o_sub ?_ | refine o_neg ?_ | refine o_ltI ?_ | refine o_le ?_ | refine o_gt ?_ | refine o_ge ?_ | refine o_is ?_ | refine o_isNot ?_ | refine o_lenT ?_ | refine o_lenF ?_ | refine o_lenS ?_ | refine o_intB ?_ | refine o_intI ?_ | refine o_max ?_ | refine o_min ?_ | refine o_tupT ?_ | refine o_eqI ?_ | refine o_eqS ?_ | refine o_eqB ?_
  | refine b_is ?_ | refine i_is ?_ | refine s_is ?_ | refine i_tup ?_ | refine i_str ?_ | refine tr_bl ?_ | refine ty_bl ?_ | refine ty_str ?_ | refine ty_tup ?_ | refine ty_int ?_ | refine k_s ?_ | refine k_i ?_
  | refine Br.tt ?_ | refine Br.ff ?_ | refine Br.nf ?_ | refine Br.nt ?_ | refine f_ret ?_ | refine f_nx ?_ | refine f_body ?_)
/-- a well: what it still holds, its number, how often -/
def isWell (o : PObj) : Prop := ∃ a b d : Int, o = .lst [.int a, .int b, .int d]
theorem isWell.low {o : PObj} (n : Nat) (h : isWell o) : o.low n = true := by
  obtain ⟨a, b, d, rfl⟩ := h; rfl
theorem lowW : ∀ o n, isWell o → o.low n = true := fun o n h => h.low n
def HasW (i : Nat) (S : Store) : Prop := ∃ o, S[i]? = some o ∧ isWell o
theorem HasW.lt {i : Nat} {S : Store} (h : HasW i S) : i < S.length := by
  obtain ⟨o, h, _⟩ := h; exact lt_of_get h
noncomputable def bTake : TSt :=
  (sSeq (sIf (bBl (vBin oGt (vBin oIdx (vVar 0) (vC (.int 0))) (vC (.int 0)))) (sSeq (sSet 2 (vBin oMod (vBin oIdx (vVar 0) (vC (.int 0))) (vVar 1))) (sSeq (sSub (vVar 0) (vC (.int 0)) (vBin oDiv (vBin oIdx (vVar 0) (vC (.int 0))) (vVar 1))) (sSeq (sRet (vVar 2)) sNil))) sNil) (sSeq (sSub (vVar 0) (vC (.int 2)) (vBin oAdd (vBin oIdx (vVar 0) (vC (.int 2))) (vC (.int 1)))) (sSeq (sSet 3 (vBin oMod (vBin oMul (vBin oAdd (vBin oIdx (vVar 0) (vC (.int 1))) (vBin oMul (vC (.int 7919)) (vBin oIdx (vVar 0) (vC (.int 2))))) (vC (.int 48271))) (vC (.int 2147483647)))) (sSeq (sRet (vBin oMod (vBin oDiv (vBin oMod (vBin oMul (vVar 3) (vBin oAdd (vVar 3) (vC (.int 69621)))) (vC (.int 2147483629))) (vC (.int 8))) (vVar 1))) sNil))))
section
variable {Q : PV → Store → Prop} {E : PX → Store → Prop} {S : Store}
theorem take_w {i : Nat} {m : Int} (hw : HasW i S) (h0 : 0 < m ∧ m < 1073741824) (q : ∀ (r : Int) (U : Store), Fr isWell i S U → U.length = S.length → 0 ≤ r → r < m → Q (.int r) U) : W (fnV 2 4 bTake [.ref i, .int m] S) Q E := by
  rw [show fnV 2 4 bTake [.ref i, .int m] S = fin S (bTake [some (.ref i), some (.int m), none, none] S) from fnV_eq 2 4 _ _ _ rfl]
  obtain ⟨o, h, a, b, d, rfl⟩ := hw
  refine f_body ?_
  unfold bTake
  repeat walk_at "w"
  refine o_idxR h (at0 _ _) ?_
  repeat walk_at "w"
  refine Br.dec (fun ha => ?_) (fun ha => ?_)
  · repeat walk_at "w"
    refine o_idxR h (at0 _ _) ?_
    repeat walk_at "w"
    refine o_mod h0.1 ?_
    repeat walk_at "w"
    refine o_idxR h (at0 _ _) ?_
    repeat walk_at "w"
    refine o_div h0 ?_
    repeat walk_at "w"
    refine o_st (n := 0) h rfl ?_
    repeat walk_at "w"
    exact g_fr (Fr.set h ⟨_, _, _, rfl⟩) lowW (lt_of_get h) rfl fun U u e => q _ U u e (Int.emod_nonneg _ (by omega)) (Int.emod_lt_of_pos _ h0.1)
  · repeat walk_at "w"
    refine o_idxR h (at2 _ _ _ _) ?_
    repeat walk_at "w"
    refine o_st (n := 2) h rfl ?_
    have h2 : (S.set i (.lst [.int a, .int b, .int (d + 1)]))[i]? = some (.lst [.int a, .int b, .int (d + 1)]) := get_set h
    show WS _ _
    repeat walk_at "w"
    refine o_idxR h2 (at1 _ _ _) ?_
    repeat walk_at "w"
    refine o_idxR h2 (at2 _ _ _ _) ?_
    refine o_mul (.inl (by omega)) ?_
    repeat walk_at "w"
    refine o_mul (.inr (by omega)) ?_
    repeat walk_at "w"
    refine o_mod (by omega) ?_
    repeat walk_at "w"
    refine o_mul (.inl ?_) ?_
    · have := Int.emod_nonneg ((b + 7919 * (d + 1)) * 48271) (b := 2147483647) (by omega)
      have := Int.emod_lt_of_pos ((b + 7919 * (d + 1)) * 48271) (b := 2147483647) (by omega)
      omega
    repeat walk_at "w"
    refine o_mod (by omega) ?_
    repeat walk_at "w"
    refine o_div (by omega) ?_
    repeat walk_at "w"
    refine o_mod h0.1 ?_
    repeat walk_at "w"
    exact g_fr (Fr.set h ⟨_, _, _, rfl⟩) lowW (lt_of_get h) rfl fun U u e => q _ U u e (Int.emod_nonneg _ (by omega)) (Int.emod_lt_of_pos _ h0.1)
end
end Ev

/-! Fw14: texts by their code points, parts of lists. -/
namespace Ev
open PySem PySem.Spec PyProof.Rows L2 SX
/-! ### parts -/
theorem cut_to {α : Type} (xs : List α) {k : Int} (h : 0 ≤ k) : cutL xs none (some k) = xs.take k.toNat := by
  obtain ⟨n, rfl⟩ := Int.eq_ofNat_of_zero_le h
  unfold cutL
  rw [HT.sIx_none, HT.sIx_nat, List.drop_zero, Nat.sub_zero, Int.toNat_natCast]
  by_cases hn : n ≤ xs.length
  · rw [Nat.min_eq_left hn]
  · rw [Nat.min_eq_right (by omega), List.take_length, List.take_of_length_le (by omega)]
theorem cut_from {α : Type} (xs : List α) {k : Int} (h : 0 ≤ k) : cutL xs (some k) none = xs.drop k.toNat := by
  obtain ⟨n, rfl⟩ := Int.eq_ofNat_of_zero_le h
  unfold cutL
  rw [HT.sIx_none, HT.sIx_nat, Int.toNat_natCast]
  by_cases hn : n ≤ xs.length
  · rw [Nat.min_eq_left hn, List.take_of_length_le (by simp)]
  · rw [Nat.min_eq_right (by omega), Nat.sub_self, List.take_zero, List.drop_of_length_le (by omega)]
theorem cut_mid {α : Type} (xs : List α) {k m : Int} (h : 0 ≤ k) (h2 : 0 ≤ m) : cutL xs (some k) (some m) = (xs.drop k.toNat).take (m.toNat - k.toNat) := by
  obtain ⟨n, rfl⟩ := Int.eq_ofNat_of_zero_le h
  obtain ⟨j, rfl⟩ := Int.eq_ofNat_of_zero_le h2
  unfold cutL
  rw [HT.sIx_nat, HT.sIx_nat, Int.toNat_natCast, Int.toNat_natCast]
  by_cases hn : n ≤ xs.length
  · rw [Nat.min_eq_left hn]
    by_cases hj : j ≤ xs.length
    · rw [Nat.min_eq_left hj]
    · rw [Nat.min_eq_right (by omega), List.take_of_length_le (by simp), List.take_of_length_le (by simp; omega)]
  · rw [Nat.min_eq_right (show xs.length ≤ n by omega), List.drop_of_length_le (Nat.le_refl _), List.drop_of_length_le (show xs.length ≤ n by omega)]; simp
theorem sCut (a : List Nat) (l h : Option Int) : strCut (S a) l h = S (cutL a l h) := rfl
theorem S_ex (z : Str) : ∃ a : List Nat, z = S a := ⟨z.cps.toList, (S_tl z).symm⟩
theorem len_S (a : List Nat) : (S a).length = a.length := S_len a
theorem SOk_S {a : List Nat} : SOk (S a) ↔ a.length ≤ sizeLine ∧ ∀ c ∈ a, c < 1114112 := by
  unfold SOk PyData.strOk
  rw [S_len]
  simp
theorem atI_ex {α : Type} {xs : List α} {k : Int} (h0 : 0 ≤ k) (h1 : k < xs.length) : ∃ x, atI xs k = some x ∧ x ∈ xs := by
  obtain ⟨x, h, e⟩ := atI_in h0 h1
  exact ⟨x, h, List.mem_of_getElem? e⟩
theorem atI_map {α β : Type} (f : α → β) (xs : List α) (k : Int) : atI (xs.map f) k = (atI xs k).map f := by
  unfold atI
  rw [List.length_map]
  cases ixN xs.length k with
  | none => rfl
  | some j => simp
theorem ixN_in {n : Nat} {k : Int} (h0 : 0 ≤ k) (h1 : k < n) : ixN n k = some k.toNat := by
  unfold ixN; rw [if_pos h0, if_pos h1]
theorem inStr_one (a : List Nat) (c : Nat) : inStr (S [c]) (S a) = decide (c ∈ a) := in_one a c
/-! ### data -/
theorem eqv_str (a b : Str) : PV.eqv (.str a) (.str b) = (a == b) := rfl
theorem dats_strs (l : List Str) : PV.dats (l.map .str) = true := by
  induction l with
  | nil => rfl
  | cons a l ih => simp only [List.map_cons, PV.dats, PV.dat, ih, Bool.and_self]
theorem deps_strs (l : List Str) : PV.deps (l.map .str) = 0 := by
  induction l with
  | nil => rfl
  | cons a l ih => simp only [List.map_cons, PV.deps, PV.dep, ih, Nat.max_self]
theorem eqvs_strs (l m : List Str) : PV.eqvs (l.map .str) (m.map .str) = (l == m) := by
  induction l generalizing m with
  | nil => cases m <;> rfl
  | cons a l ih =>
    cases m with
    | nil => rfl
    | cons b m => simp only [List.map_cons, PV.eqvs, eqv_str, ih]; rfl
theorem lows_strs (n : Nat) (l : List Str) : PV.lows n (l.map .str) = true := lows_dat n _ (dats_strs l)
theorem any_strs (l : List Str) (x : Str) : ((l.map PV.str).any fun z => PV.eqv z (.str x)) = decide (x ∈ l) := by
  induction l with
  | nil => rfl
  | cons a l ih =>
    rw [List.map_cons, List.any_cons, ih, eqv_str]
    simp only [List.mem_cons, Bool.decide_or]
    congr 1
    by_cases h : a = x
    · subst h; simp
    · simp [h, Ne.symm h]
theorem in_strs {S0 : Store} {j : Nat} {l : List Str} (h : S0[j]? = some (.lst (l.map .str))) (x : Str) : inS S0 (.str x) (.ref j) = some (decide (x ∈ l)) := by
  unfold inS
  rw [deref_ref h]
  dsimp only
  rw [if_pos ⟨rfl, dats_strs l, by rw [deps_strs]; exact Nat.zero_le _⟩]
  exact congrArg some (any_strs l x)
theorem in_strsT {S0 : Store} {l : List Str} (x : Str) : inS S0 (.str x) (.tup (l.map .str)) = some (decide (x ∈ l)) := by
  unfold inS
  rw [deref_tup]
  dsimp only
  rw [if_pos ⟨rfl, dats_strs l, by rw [deps_strs]; exact Nat.zero_le _⟩]
  exact congrArg some (any_strs l x)
theorem in_text {S0 : Store} (a b : Str) : inS S0 (.str a) (.str b) = some (inStr a b) := rfl
theorem eq_empty {S0 : Store} (l : List PV) : eqS S0 (.frl l) (.frl []) = some l.isEmpty := by
  unfold eqS
  split
  · cases l <;> rfl
  · cases l <;> rfl
theorem eq_emptyT {S0 : Store} (l : List PV) : eqS S0 (.tup l) (.tup []) = some l.isEmpty := by
  unfold eqS
  split
  · cases l <;> rfl
  · cases l <;> rfl
theorem eq_tups {S0 : Store} (l m : List Str) : eqS S0 (.tup (l.map .str)) (.tup (m.map .str)) = some (l == m) := by
  rw [eqS_dat (by simp only [deref_tup, PV.dat, dats_strs]) (by simp only [deref_tup, PV.dat, dats_strs]) (by simp only [deref_tup, PV.dep, deps_strs]; decide)]
  simp only [deref_tup, PV.eqv, eqvs_strs]
theorem asBl_bls (l : List Bool) : asBl (l.map .bl) = some l := by
  induction l with
  | nil => rfl
  | cons a l ih => simp only [List.map_cons, asBl, ih, Option.map_some]
theorem o_all {P : PV → Prop} {l : List Bool} (q : P (.bl (l.all _root_.id))) : Op (fAll (l.map .bl)) P := Op.of (by unfold fAll; rw [asBl_bls]; rfl) q
theorem asStr_strs (l : List Str) : asStr (l.map .str) = some l := by
  induction l with
  | nil => rfl
  | cons a l ih => simp only [List.map_cons, asStr, ih, Option.map_some]
theorem joinL_ones (l : List Nat) : TL.joinL [] (l.map fun c => [c]) = l := by
  induction l with
  | nil => rfl
  | cons a l ih =>
    cases l with
    | nil => rfl
    | cons b l => simp only [List.map_cons, TL.joinL] at ih ⊢; rw [ih]; rfl
theorem join_ones (l : List Nat) : Txt.join (S []) (l.map fun c => S [c]) = S l := by
  have := join_S [] (l.map fun c => [c])
  rw [List.map_map] at this
  rw [joinL_ones] at this
  exact this
theorem o_join {P : PV → Prop} {l : List Nat} (h : ∀ c ∈ l, c < 1114112) (hl : l.length ≤ 1000) (q : P (.str (S l))) : Op (mJoin (S []) (l.map fun c => .str (S [c]))) P := by
  refine Op.of ?_ q
  have e : (l.map fun c => PV.str (S [c])) = (l.map fun c => S [c]).map PV.str := by rw [List.map_map]; rfl
  unfold mJoin
  rw [e, asStr_strs]
  dsimp only
  rw [join_ones, if_pos]
  refine ⟨?_, SOk_S.mpr ⟨by have := sizeLine_eq; omega, h⟩⟩
  rw [List.map_map]
  have : ∀ l : List Nat, (l.map ((fun x : Str => x.length) ∘ fun c => S [c])).sum = l.length := by
    intro l
    induction l with
    | nil => rfl
    | cons a l ih => simp only [List.map_cons, List.sum_cons, ih, List.length_cons, Function.comp, S_len, List.length_nil]; omega
  rw [this, S_len, List.length_map]
  simp; omega
theorem SOk.pts {z : Str} (h : SOk z) : ∀ c ∈ z.cps.toList, c < 1114112 := by
  obtain ⟨a, rfl⟩ := S_ex z
  exact (SOk_S.mp h).2
/-! ### the letters -/
def lt26 : List Nat := [97, 98, 99, 100, 101, 102, 103, 104, 105, 106, 107, 108, 109, 110, 111, 112, 113, 114, 115, 116, 117, 118, 119, 120, 121, 122]
theorem lt26_eq : (Str.ofString "abcdefghijklmnopqrstuvwxyz") = S lt26 := by decide +kernel
def isLt (c : Nat) : Prop := 97 ≤ c ∧ c < 123
theorem mem_lt26 {c : Nat} : c ∈ lt26 ↔ isLt c := by
  constructor
  · intro h
    have : ∀ c ∈ lt26, 97 ≤ c ∧ c < 123 := by decide
    exact this c h
  · intro h
    have : ∀ k < 26, 97 + k ∈ lt26 := by decide
    have e := this (c - 97) (by have := h.2; omega)
    rwa [show 97 + (c - 97) = c by have := h.1; omega] at e
theorem at_lt26 {k : Int} (h0 : 0 ≤ k) (h1 : k < 26) : atI (S lt26).cps.toList k = some (97 + k.toNat) := by
  obtain ⟨n, rfl⟩ := Int.eq_ofNat_of_zero_le h0
  have : ∀ n < 26, atI lt26 ((n : Nat) : Int) = some (97 + n) := by decide
  exact this n (by omega)
theorem ix_lt26 {c : Nat} (h : isLt c) : mIndex (S lt26) [.str (S [c])] = some (.int ((c - 97 : Nat) : Int)) := by
  have : ∀ k < 26, Builtin.Str.occurrences (S lt26) (S [97 + k]) 0 (S lt26).length 1 = [k] := by decide +kernel
  have e := this (c - 97) (by have := h.2; omega)
  rw [show 97 + (c - 97) = c by have := h.1; omega] at e
  unfold mIndex
  dsimp only
  rw [e]
theorem o_index {P : PV → Prop} {c : Nat} (h : isLt c) (q : P (.int ((c - 97 : Nat) : Int))) : Op (mIndex (S lt26) [.str (S [c])]) P := Op.of (ix_lt26 h) q
theorem o_letter {P : PV → Prop} {S0 : Store} {k : Int} (h0 : 0 ≤ k) (h1 : k < 26) (q : isLt (97 + k.toNat) → P (.str (S [97 + k.toNat]))) : Op (oIdx (.str (S lt26)) (.int k) S0) P := o_idxS (at_lt26 h0 h1) (q ⟨by omega, by omega⟩)
theorem SOk_lt26 : SOk (S lt26) := by rw [← lt26_eq]; decide +kernel
end Ev

/-! Fw15: more of the language. -/
namespace Ev
open PySem PySem.Spec PyProof.Rows L2
theorem RVs.rev {K : PySem.W.Frag} {μ : List Addr} {H : Hp} : ∀ {xs : List PV} {vs : List V}, RVs K μ H xs vs → RVs K μ H xs.reverse vs.reverse
  | _, _, .nil => .nil
  | _, _, .cons h t => by
    rw [List.reverse_cons, List.reverse_cons]
    exact (RVs.rev t).append (.cons h .nil)
/-- xs[::-1] -/
def lRev (a : TV) : TL := fun ρ S => (a ρ S).bind fun x S => match deref S x with
  | .frl xs => .ok (xs.reverse, none) S
  | _ => .bad
section
variable {X : Cx} {W : WX} {a : Expr} {ea : TV} {pos p1 p2 p3 : Pos} {k : Nat}
theorem sl_rev (ha : PE X a (E_ X W ea)) : PE X (.Subscript a (.Slice none none (some (.UnaryOp .USub (.Constant (.int 1) k p1) p2)) p3) pos) (L_ X W (lRev ea)) := by
  refine PE.imp (pe_revL ha) fun σ H Q h => ?_
  obtain ⟨μ, S, ρ, R, E, p⟩ := h
  refine ⟨μ, S, ρ, R, E, Post.step (P := fun μ H r => PostL X.K (cmX X) μ H r Q (atσ W σ)) p (fun _ _ h => h) (fun h => h) fun x S1 μ1 H1 v E1 R1 rv p => ?_⟩
  split at p
  · rename_i xs e
    obtain ⟨ad, vs, rfl, sq, l, r⟩ := (deref_seq R1 rv).1 xs e
    refine ⟨ad, vs, rfl, sq, fun q hq => ?_⟩
    exact p μ1 _ _ (E1.trans (Ext.fresh hq)) (R1.fresh hq) ⟨E1.none' R1 hq, fun hm => R1.trk hm hq, vs.reverse, upd_same, by rw [List.length_reverse]; exact l, r.rev.mono R1 (Ext.fresh hq)⟩
  · exact p.elim
end
section
variable {QL : LL → Store → Prop} {E : PX → Store → Prop} {ρ : Env'} {S : Store} {a : TV}
def RevR (x : PV) (S : Store) (Q : LL → Store → Prop) : Prop := match deref S x with
  | .frl xs => Q (xs.reverse, none) S
  | _ => False
theorem w_rev (h : W (a ρ S) (fun x S => RevR x S QL) E) : W (lRev a ρ S) QL E := by
  refine W_bind (W_mono h (fun x S h => ?_) fun _ _ h => h)
  unfold RevR at h
  split at h <;> simp_all only [W]
theorem revR {j : Nat} {xs : List PV} (g : S[j]? = some (.lst xs)) (q : QL (xs.reverse, none) S) : RevR (.ref j) S QL := by
  unfold RevR; rw [deref_ref g]; exact q
end
end Ev

/-! Fw16: several things that change; names that are drawn. -/
namespace Ev
open PySem PySem.Spec PyProof.Rows L2 SX
local macro_rules | `(tactic| walk_at "w") => `(tactic| first
  | (with_reducible apply s_set; focus (repeat first | exact SetR.zero | apply SetR.succ))
  | (with_reducible apply w_get; focus (repeat first | exact GetR.zero | apply GetR.succ))
  | with_reducible first
  | refine s_seqN ?_ | refine s_seq ?_ | refine q_nx ?_ | refine q_ret ?_ | refine q_brk ?_ | refine q_cnt ?_ | refine q_exc ?_
  | refine s_nil ?_ | refine s_pass ?_ | refine s_brk ?_ | refine s_cnt ?_ | refine s_expr ?_ | refine s_ret ?_ | refine s_retN ?_ | refine s_if ?_ | refine s_unp ?_ | refine s_sub ?_ | refine s_for ?_
  | refine w_c ?_ | (refine w_str ?_ ?_; decide +kernel) | refine w_bin ?_ | refine w_un ?_ | refine w_chn ?_ | refine w_bV ?_ | refine w_bBl ?_ | refine w_bAnd ?_ | refine w_bOr ?_ | refine w_bNot ?_ | refine w_bYes ?_
  | refine w_vAnd ?_ | refine w_vOr ?_ | refine w_vNot ?_ | refine w_vIf ?_ | refine w_nil ?_ | refine w_cons ?_ | refine w_tup ?_ | refine w_disp ?_ | refine w_new ?_ | refine lnew ?_ | refine w_oNone ?_ | refine w_oSome ?_ | refine w_slc ?_ | refine w_lslc ?_ | refine slcT ?_ | refine slcS ?_
  | refine w_call ?_ | refine w_callL ?_ | refine w_lcallL ?_ | refine w_lcallN ?_ | refine w_isi ?_ | refine w_app ?_ | refine w_app0 ?_ | refine w_lval ?_ | refine w_cat ?_ | refine w_eqL ?_ | refine w_lm ?_ | refine w_ext ?_ | refine w_sm ?_ | refine w_sm0 ?_ | refine w_lsm ?_ | refine w_smL ?_ | refine w_dic0 ?_ | refine w_dic1 ?_ | refine w_iV ?_ | refine w_iL ?_ | refine il_none ?_ | refine il_some ?_ | refine w_rng ?_ | refine w_comp ?_ | refine w_rev ?_ | refine w_lenSet ?_ | refine w_extV ?_
  | refine o_addI ?_ | refine o_iadd ?_ | refine o_sub ?_ | refine o_neg ?_ | refine o_ltI ?_ | refine o_le ?_ | refine o_gt ?_ | refine o_ge ?_ | refine o_is ?_ | refine o_isNot ?_ | refine o_lenT ?_ | refine o_lenF ?_ | refine o_lenS ?_ | refine o_intB ?_ | refine o_intI ?_ | refine o_max ?_ | refine o_min ?_ | refine o_tupT ?_ | refine o_eqI ?_ | refine o_eqS ?_ | refine o_eqB ?_
  | refine b_is ?_ | refine i_is ?_ | refine s_is ?_ | refine i_tup ?_ | refine i_str ?_ | refine tr_bl ?_ | refine ty_bl ?_ | refine ty_str ?_ | refine ty_tup ?_ | refine ty_int ?_ | refine k_s ?_ | refine k_i ?_
  | refine Br.tt ?_ | refine Br.ff ?_ | refine Br.nf ?_ | refine Br.nt ?_ | refine f_ret ?_ | refine f_nx ?_ | refine f_body ?_)
/-- a comprehension over things that stand for others -/
theorem compL_A {α : Type} {tg : Tgt} {c : TB} {el : TV} {ρ : Env'} {S : Store} {l : LI} (e f : α → PV) (p : α → Bool) (lk : lkI l S) : ∀ (os : List α) (acc : List PV), (∀ o ∈ os, ∃ ρ1, tg (e o) ρ = some ρ1 ∧ c ρ1 S = .ok (p o) S ∧ (p o = true → el ρ1 S = .ok (f o) S)) →
    compL tg c el ρ l (os.map e) acc S = .ok (acc ++ (os.filter p).map f, none) S
  | [], acc, _ => by rw [List.map_nil]; unfold compL; rw [if_pos lk]; simp
  | x :: r, acc, h => by
    obtain ⟨ρ1, h1, h2, h3⟩ := h x (by simp)
    rw [List.map_cons]
    unfold compL
    rw [if_pos lk, h1]
    dsimp only
    rw [h2]
    cases hp : p x with
    | true =>
      dsimp only
      rw [h3 hp]
      dsimp only
      rw [compL_A e f p lk r _ fun y hy => h y (by simp [hy])]
      simp [hp]
    | false =>
      dsimp only
      rw [compL_A e f p lk r _ fun y hy => h y (by simp [hy])]
      simp [hp]
theorem w_pureF {α : Type} {tg : Tgt} {c : TB} {el : TV} {ρ : Env'} {S : Store} {j : Option Lk} {Q : LL → Store → Prop} {E : PX → Store → Prop} {os : List α} {e : α → PV} (f : α → PV) (p : α → Bool) (lk : lkI (os.map e, j) S)
    (h : ∀ o ∈ os, Op (tg (e o) ρ) fun ρ1 => W (c ρ1 S) (fun k S1 => (k = p o ∧ S1 = S) ∧ (p o = true → W (el ρ1 S) (fun y S2 => y = f o ∧ S2 = S) fun _ _ => False)) fun _ _ => False) (q : Q ((os.filter p).map f, none) S) : W (compL tg c el ρ (os.map e, j) (os.map e, j).1 [] S) Q E := by
  rw [show (os.map e, j).1 = os.map e from rfl, compL_A e f p lk os [] fun o ho => ?_]
  · exact q
  · have h := h o ho
    cases hf : tg (e o) ρ with
    | none => rw [hf] at h; exact h.elim
    | some u =>
      rw [hf] at h
      obtain ⟨k, S1, h3, ⟨rfl, rfl⟩, h4⟩ := W.ok h
      refine ⟨u, rfl, h3, fun hp => ?_⟩
      obtain ⟨y, S2, h5, rfl, rfl⟩ := W.ok (h4 hp)
      exact h5
theorem w_pureA {α : Type} {tg : Tgt} {el : TV} {ρ : Env'} {S : Store} {j : Option Lk} {Q : LL → Store → Prop} {E : PX → Store → Prop} {os : List α} {e : α → PV} (f : α → PV) (lk : lkI (os.map e, j) S)
    (h : ∀ o ∈ os, Op (tg (e o) ρ) fun ρ1 => W (el ρ1 S) (fun y S2 => y = f o ∧ S2 = S) fun _ _ => False) (q : Q (os.map f, none) S) : W (compL tg bYes el ρ (os.map e, j) (os.map e, j).1 [] S) Q E := by
  refine w_pureF f (fun _ => true) lk (fun o ho => ?_) (by rw [List.filter_eq_self.mpr (fun _ _ => rfl)]; exact q)
  have h := h o ho
  cases hf : tg (e o) ρ with
  | none => rw [hf] at h; exact h.elim
  | some u => rw [hf] at h; exact ⟨⟨rfl, rfl⟩, fun _ => h⟩
theorem t_pair {ρ : Env'} {i j : Nat} {f : PV → Env'} {g : PV → Env'} {x y : PV} {P : Env' → Prop} (h : SetR ρ i f) (h2 : SetR (f x) j g) (q : P (g y)) : Op (tgT (tgCons (tgN i) (tgCons (tgN j) tgNil)) (.tup [x, y]) ρ) P := by
  refine Op.of (x := g y) ?_ q
  simp only [tgT, tgN, Option.bind_some, tgCons, tgNil]
  rw [h.eq, h2.eq]
theorem t_three {ρ : Env'} {i j k : Nat} {f : PV → Env'} {g : PV → Env'} {l : PV → Env'} {x y z : PV} {P : Env' → Prop} (h : SetR ρ i f) (h2 : SetR (f x) j g) (h3 : SetR (g y) k l) (q : P (l z)) : Op (tgT (tgCons (tgN i) (tgCons (tgN j) (tgCons (tgN k) tgNil))) (.tup [x, y, z]) ρ) P := by
  refine Op.of (x := l z) ?_ q
  simp only [tgT, tgN, Option.bind_some, tgCons, tgNil]
  rw [h.eq, h2.eq, h3.eq]
/-- things come; only those of L change, each stays as it must be -/
structure FrM (L : List (Nat × (PObj → Prop))) (S S' : Store) : Prop where
  le : S.length ≤ S'.length
  get : ∀ j, j < S.length → (∀ p ∈ L, p.1 ≠ j) → S'[j]? = S[j]?
  own : ∀ p ∈ L, ∃ o, S'[p.1]? = some o ∧ p.2 o
section
variable {L : List (Nat × (PObj → Prop))} {P : PObj → Prop} {i : Nat} {S S' T U : Store}
def OwnM (L : List (Nat × (PObj → Prop))) (S : Store) : Prop := ∀ p ∈ L, ∃ o, S[p.1]? = some o ∧ p.2 o
theorem Kp.frM (k : Kp S S') (h : OwnM L S) : FrM L S S' := ⟨k.le, fun j hj _ => k.get j hj, fun p hp => by obtain ⟨o, h, q⟩ := h p hp; exact ⟨o, k.at h, q⟩⟩
theorem FrM.trans (a : FrM L S T) (b : FrM L T U) : FrM L S U := ⟨Nat.le_trans a.le b.le, fun j hj hi => (b.get j (Nat.lt_of_lt_of_le hj a.le) hi).trans (a.get j hj hi), b.own⟩
theorem FrM.kp (a : FrM L S T) (k : Kp T U) : FrM L S U := a.trans (k.frM a.own)
theorem FrM.of {j : Nat} {o : PObj} (a : FrM L S T) (h : S[j]? = some o) (hi : ∀ p ∈ L, p.1 ≠ j) : T[j]? = some o := (a.get j (lt_of_get h) hi).trans h
theorem FrM.setL (a : FrM L S T) {j : Nat} (hj : S.length ≤ j) (hi : ∀ p ∈ L, p.1 ≠ j) (o : PObj) : FrM L S (T.set j o) := by
  refine ⟨by simp [a.le], fun k hk hki => ?_, fun p hp => ?_⟩
  · rw [List.getElem?_set_ne (by omega)]; exact a.get k hk hki
  · obtain ⟨o', h, q⟩ := a.own p hp
    exact ⟨o', by rw [List.getElem?_set_ne (Ne.symm (hi p hp))]; exact h, q⟩
/-- the i-th changes, as it may -/
theorem FrM.setI (a : FrM L S T) {o : PObj} (hi : ∃ P, (i, P) ∈ L) (hl : i < T.length) (ho : ∀ p ∈ L, p.1 = i → p.2 o) : FrM L S (T.set i o) := by
  obtain ⟨P, hP⟩ := hi
  refine ⟨by simp [a.le], fun k hk hki => ?_, fun p hp => ?_⟩
  · rw [List.getElem?_set_ne (fun e => hki _ hP e)]; exact a.get k hk hki
  · by_cases e : p.1 = i
    · exact ⟨o, by rw [e]; exact List.getElem?_set_self hl, ho p hp e⟩
    · obtain ⟨o', h, q⟩ := a.own p hp
      exact ⟨o', by rw [List.getElem?_set_ne (Ne.symm e)]; exact h, q⟩
/-- a step that changes one of them -/
theorem Fr.frM (a : Fr P i S T) (h : OwnM L S) (hi : (i, P) ∈ L) (hn : ∀ p ∈ L, p.1 = i → p.2 = P) : FrM L S T := by
  refine ⟨a.le, fun j hj hk => a.get j hj (fun e => hk _ hi e.symm), fun p hp => ?_⟩
  by_cases e : p.1 = i
  · rw [e, hn p hp e]; exact a.own
  · obtain ⟨o, h1, q⟩ := h p hp
    exact ⟨o, a.of h1 e, q⟩
theorem FrM.gc (a : FrM L S T) (hl : ∀ p ∈ L, ∀ o n, p.2 o → o.low n = true) : gcOk S T := ⟨a.le, fun j hj => by
  by_cases h : ∀ p ∈ L, p.1 ≠ j
  · exact .inl (a.get j hj h)
  · have h : ∃ p ∈ L, p.1 = j := Classical.byContradiction fun hn => h fun p hp e => hn ⟨p, hp, e⟩
    obtain ⟨p, hp, e⟩ := h
    obtain ⟨o, h1, q⟩ := a.own p hp
    exact .inr ⟨o, by rw [← e]; exact h1, hl p hp o _ q⟩⟩
theorem FrM.cut (a : FrM L S T) (hi : ∀ p ∈ L, p.1 < S.length) : FrM L S (T.take S.length) := by
  refine ⟨by simp [a.le], fun j hj h => ?_, fun p hp => ?_⟩
  · rw [List.getElem?_take_of_lt hj]; exact a.get j hj h
  · obtain ⟨o, h, q⟩ := a.own p hp
    exact ⟨o, by rw [List.getElem?_take_of_lt (hi p hp)]; exact h, q⟩
variable {Q : PV → Store → Prop} {E : PX → Store → Prop} {v : PV}
theorem g_frM (a : FrM L S T) (hl : ∀ p ∈ L, ∀ o n, p.2 o → o.low n = true) (hi : ∀ p ∈ L, p.1 < S.length) (hv : v.low S.length = true) (q : ∀ U, FrM L S U → U.length = S.length → Q v U) : W (gcV S v T) Q E := by
  unfold gcV
  rw [if_pos (a.gc hl), if_pos hv]
  exact q _ (a.cut hi) (by simp only [List.length_take]; have := a.le; omega)
theorem g_frMNew (a : FrM L S T) (hl : ∀ p ∈ L, ∀ o n, p.2 o → o.low n = true) (hi : ∀ p ∈ L, p.1 < S.length) {j : Nat} {o : PObj} (hj : S.length ≤ j) (h : T[j]? = some o) (ho : o.low S.length = true) (q : ∀ U, FrM L S U → U.length = S.length + 1 → U[S.length]? = some o → Q (.ref S.length) U) : W (gcV S (.ref j) T) Q E := by
  unfold gcV
  have hv : ¬ (PV.ref j).low S.length = true := by simp [PV.low]; omega
  rw [if_pos (a.gc hl), if_neg hv]
  dsimp only
  rw [h]
  dsimp only
  rw [if_pos ⟨hj, ho⟩]
  have hlen : (T.take S.length).length = S.length := by simp only [List.length_take]; have := a.le; omega
  refine q _ ((a.cut hi).trans ((Kp.app _ _).frM (a.cut hi).own)) (by simp [hlen]) ?_
  rw [List.getElem?_append_right (by omega), hlen, Nat.sub_self]; rfl
end
end Ev

/-! Fw17: words that bar, names unlike each other. -/
namespace Ev
open PySem PySem.Spec PyProof.Rows L2 SX
local macro_rules | `(tactic| walk_at "w") => `(tactic| first
  | (with_reducible apply s_set; focus (repeat first | exact SetR.zero | apply SetR.succ))
  | (with_reducible apply w_get; focus (repeat first | exact GetR.zero | apply GetR.succ))
  | with_reducible first
  | refine s_seqN ?_ | refine s_seq ?_ | refine q_nx ?_ | refine q_ret ?_ | refine q_brk ?_ | refine q_cnt ?_ | refine q_exc ?_
  | refine s_nil ?_ | refine s_pass ?_ | refine s_brk ?_ | refine s_cnt ?_ | refine s_expr ?_ | refine s_ret ?_ | refine s_retN ?_ | refine s_if ?_ | refine s_unp ?_ | refine s_sub ?_ | refine s_for ?_
  | refine w_c ?_ | (refine w_str ?_ ?_; decide +kernel) | refine w_bin ?_ | refine w_un ?_ | refine w_chn ?_ | refine w_bV ?_ | refine w_bBl ?_ | refine w_bAnd ?_ | refine w_bOr ?_ | refine w_bNot ?_ | refine w_bYes ?_
  | refine w_vAnd ?_ | refine w_vOr ?_ | refine w_vNot ?_ | refine w_vIf ?_ | refine w_nil ?_ | refine w_cons ?_ | refine w_tup ?_ | refine w_disp ?_ | refine w_new ?_ | refine lnew ?_ | refine w_oNone ?_ | refine w_oSome ?_ | refine w_slc ?_ | refine w_lslc ?_ | refine slcT ?_ | refine slcS ?_
  | refine w_call ?_ | refine w_callL ?_ | refine w_lcallL ?_ | refine w_lcallN ?_ | refine w_isi ?_ | refine w_app ?_ | refine w_app0 ?_ | refine w_lval ?_ | refine w_cat ?_ | refine w_eqL ?_ | refine w_lm ?_ | refine w_ext ?_ | refine w_sm ?_ | refine w_sm0 ?_ | refine w_lsm ?_ | refine w_smL ?_ | refine w_dic0 ?_ | refine w_dic1 ?_ | refine w_iV ?_ | refine w_iL ?_ | refine il_none ?_ | refine il_some ?_ | refine w_rng ?_ | refine w_comp ?_ | refine w_rev ?_ | refine w_lenSet ?_ | refine w_extV ?_
  | refine o_addI ?_ | refine o_iadd ?_ | refine o_sub ?_ | refine o_neg ?_ | refine o_ltI ?_ | refine o_le ?_ | refine o_gt ?_ | refine o_ge ?_ | refine o_is ?_ | refine o_isNot ?_ | refine o_lenT ?_ | refine o_lenF ?_ | refine o_lenS ?_ | refine o_intB ?_ | refine o_intI ?_ | refine o_max ?_ | refine o_min ?_ | refine o_tupT ?_ | refine o_eqI ?_ | refine o_eqS ?_ | refine o_eqB ?_
  | refine b_is ?_ | refine i_is ?_ | refine s_is ?_ | refine i_tup ?_ | refine i_str ?_ | refine tr_bl ?_ | refine ty_bl ?_ | refine ty_str ?_ | refine ty_tup ?_ | refine ty_int ?_ | refine k_s ?_ | refine k_i ?_
  | refine Br.tt ?_ | refine Br.ff ?_ | refine Br.nf ?_ | refine Br.nt ?_ | refine f_ret ?_ | refine f_nx ?_ | refine f_body ?_)
theorem mem_rangeL {x : PV} {m : Nat} : x ∈ rangeL 0 m ↔ ∃ k < m, x = .int (k : Nat) := by
  unfold rangeL
  simp only [List.mem_map, List.mem_range]
  constructor
  · rintro ⟨k, h, rfl⟩; exact ⟨k, h, by simp⟩
  · rintro ⟨k, h, rfl⟩; exact ⟨k, h, by simp⟩
noncomputable def bBarred : TSt :=
  (sSeq (sSet 0 (vStr "make use ask call see blind move leave loop out back fit bare as kind def main rest gone")) (sSeq (sRet (vNew (lSm mSplit (vVar 0) (vsCons (vStr " ") vsNil)))) sNil))
noncomputable def bUnlike : TSt :=
  (sSeq (sSet 1 (vStr "abcdefghijklmnopqrstuvwxyz")) (sSeq (sSet 2 (vNew (lDisp vsNil))) (sSeq (sFor (tgN 3) (iV (vVar 0)) (sSeq (sWhile (bOr (bBl (vBin oIn (vVar 3) (vVar 2))) (bBl (vBin oIn (vVar 3) (vApp0 (fnV 0 1 bBarred))))) (sSeq (sSet 3 (vBin oAdd (vBin oIdx (vVar 1) (vBin oMod (vBin oAdd (vSm mIndex (vVar 1) (vsCons (vBin oIdx (vVar 3) (vC (.int 0))) vsNil)) (vC (.int 1))) (vC (.int 26)))) (vSlc (vVar 3) (oSome (vC (.int 1))) oNone))) sNil)) (sSeq (sExpr (vLm mAppend (vVar 2) (vsCons (vVar 3) vsNil))) sNil))) (sSeq (sRet (vVar 2)) sNil))))
noncomputable def bNames : TSt :=
  (sSeq (sSet 2 (vStr "abcdefghijklmnopqrstuvwxyz")) (sSeq (sSet 3 (vSmL mJoin (vStr "") (lComp (tgN 8) (iRng (vsCons (vC (.int 8)) vsNil)) bYes (vBin oIdx (vVar 2) (vApp (fnV 2 4 bTake) (vsCons (vVar 0) (vsCons (vC (.int 26)) vsNil)))) [8]))) (sSeq (sSet 4 (vApp (fnV 2 4 bTake) (vsCons (vVar 0) (vsCons (vC (.int 4)) vsNil)))) (sSeq (sSet 5 (vBin oAdd (vC (.int 1)) (vApp (fnV 2 4 bTake) (vsCons (vVar 0) (vsCons (vC (.int 8)) vsNil))))) (sSeq (sSet 6 (vApp (fnV 2 4 bTake) (vsCons (vVar 0) (vsCons (vVar 5) vsNil)))) (sSeq (sSet 7 (vNew (lDisp vsNil))) (sSeq (sFor (tgN 8) (iRng (vsCons (vVar 1) vsNil)) (sSeq (sSet 9 (vBin oIdx (vVar 2) (vBin oMod (vBin oAdd (vSm mIndex (vVar 2) (vsCons (vBin oIdx (vVar 3) (vVar 6)) vsNil)) (vVar 8)) (vC (.int 26))))) (sSeq (sSet 10 (vBin oAdd (vBin oAdd (vSlc (vVar 3) oNone (oSome (vVar 6))) (vVar 9)) (vSlc (vVar 3) (oSome (vBin oAdd (vVar 6) (vC (.int 1)))) (oSome (vVar 5))))) (sSeq (sIf (bBl (vBin oEq (vVar 4) (vC (.int 0)))) (sSeq (sSet 10 (vSlc (vVar 3) oNone (oSome (vBin oAdd (vC (.int 1)) (vBin oMod (vVar 8) (vC (.int 8))))))) sNil) (sSeq (sIf (bBl (vBin oEq (vVar 4) (vC (.int 1)))) (sSeq (sSet 11 (vBin oAdd (vC (.int 1)) (vApp (fnV 2 4 bTake) (vsCons (vVar 0) (vsCons (vC (.int 8)) vsNil))))) (sSeq (sSet 10 (vSmL mJoin (vStr "") (lComp (tgN 13) (iRng (vsCons (vVar 11) vsNil)) bYes (vBin oIdx (vVar 2) (vApp (fnV 2 4 bTake) (vsCons (vVar 0) (vsCons (vC (.int 26)) vsNil)))) [13]))) sNil)) sNil) sNil)) (sSeq (sExpr (vLm mAppend (vVar 7) (vsCons (vVar 10) vsNil))) sNil))))) (sSeq (sIf (bBl (vBin oEq (vApp (fnV 2 4 bTake) (vsCons (vVar 0) (vsCons (vC (.int 4)) vsNil))) (vC (.int 1)))) (sSeq (sSet 12 (vNew (lDisp (vsCons (vStr "done") (vsCons (vStr "open") (vsCons (vStr "room") (vsCons (vStr "none") (vsCons (vStr "yes") (vsCons (vStr "no") vsNil))))))))) (sSeq (sSub (vVar 7) (vApp (fnV 2 4 bTake) (vsCons (vVar 0) (vsCons (vVar 1) vsNil))) (vBin oIdx (vVar 12) (vApp (fnV 2 4 bTake) (vsCons (vVar 0) (vsCons (vC (.int 6)) vsNil))))) sNil)) sNil) (sSeq (sRet (vApp (fnV 1 4 bUnlike) (vsCons (vVar 7) vsNil))) sNil)))))))))
section
variable {n : Nat} {Q : PV → Store → Prop} {E : PX → Store → Prop} {S0 : Store}
/-! the barred words -/
def barL : List Str := ["make", "use", "ask", "call", "see", "blind", "move", "leave", "loop", "out", "back", "fit", "bare", "as", "kind", "def", "main", "rest", "gone"]
theorem split_bar : mSplit ("make use ask call see blind move leave loop out back fit bare as kind def main rest gone" : Str) [.str (" " : Str)] = some (barL.map .str) := by
  have e : Txt.split ("make use ask call see blind move leave loop out back fit bare as kind def main rest gone" : Str) (" " : Str) = barL := by decide +kernel
  unfold mSplit
  dsimp only
  rw [e, if_pos]
  decide +kernel
theorem barred_w (q : Q (.ref S0.length) (S0 ++ [.lst (barL.map .str)])) : W (fnV 0 1 bBarred [] S0) Q E := by
  rw [show fnV 0 1 bBarred [] S0 = fin S0 (bBarred [none] S0) from fnV_eq 0 1 _ _ _ rfl]
  refine f_body ?_
  unfold bBarred
  repeat walk_at "w"
  refine Op.of split_bar ?_
  repeat walk_at "w"
  exact g_new (Kp.app _ _) (Nat.le_refl _) (get_app _ _ _) (lows_strs _ _) q
/-! names unlike each other -/
def good (z : Str) : Prop := 1 ≤ z.length ∧ z.length ≤ 8 ∧ ∀ c ∈ z.cps.toList, isLt c
theorem good_S {a : List Nat} : good (S a) ↔ 1 ≤ a.length ∧ a.length ≤ 8 ∧ ∀ c ∈ a, isLt c := by
  unfold good; rw [len_S]
def wd (p : Nat) (t : List Nat) (k : Nat) : Str := S ((97 + (p + k) % 26) :: t)
theorem tails_ok : (barL.map fun x => x.cps.toList.tail).Nodup := by decide +kernel
theorem one_tail (t : List Nat) : (barL.filter fun x => x.cps.toList.tail == t).length ≤ 1 := by
  have h : ((barL.filter fun x => x.cps.toList.tail == t).map fun x => x.cps.toList.tail).Nodup := tails_ok.sublist (List.Sublist.map _ List.filter_sublist)
  have e : ∀ x ∈ (barL.filter fun x => x.cps.toList.tail == t), x.cps.toList.tail = t := fun x hx => by
    simpa using (List.mem_filter.mp hx).2
  match hL : (barL.filter fun x => x.cps.toList.tail == t) with
  | [] => rw [hL]; simp
  | [x] => rw [hL]; simp
  | x :: y :: r =>
    rw [hL] at h e
    exfalso
    simp only [List.map_cons, List.nodup_cons, List.mem_cons] at h
    exact h.1 (.inl ((e x (by simp)).trans (e y (by simp)).symm))
theorem free_rot {us : List Str} (hu : us.length ≤ 11) (p : Nat) (t : List Nat) : ∃ K, K < 26 ∧ wd p t K ∉ us ∧ wd p t K ∉ barL := by
  refine Classical.byContradiction fun hn => ?_
  have h : ∀ K, K < 26 → wd p t K ∈ us ++ barL.filter fun x => x.cps.toList.tail == t := by
    intro K hK
    rw [List.mem_append, List.mem_filter]
    by_cases h1 : wd p t K ∈ us
    · exact .inl h1
    · by_cases h2 : wd p t K ∈ barL
      · exact .inr ⟨h2, by simp [wd]⟩
      · exact (hn ⟨K, hK, h1, h2⟩).elim
  have nd : ((List.range 26).map (wd p t)).Nodup := by
    refine List.pairwise_map.mpr (List.Pairwise.imp_of_mem (fun {a b} ha hb hab e => ?_) List.pairwise_lt_range)
    have := S_inj e
    simp only [List.mem_range] at ha hb
    simp only [List.cons.injEq] at this
    have := this.1
    have hab : a < b := hab
    omega
  have := nd.length_le_of_subset (l₂ := us ++ barL.filter fun x => x.cps.toList.tail == t) (fun x hx => by
    obtain ⟨K, hK, rfl⟩ := List.mem_map.mp hx
    exact h K (by simpa using hK))
  rw [List.length_append, List.length_map, List.length_range] at this
  have := one_tail t
  omega
theorem unlike_w {j : Nat} {ws : List Str} (hn : S0[j]? = some (.lst (ws.map .str))) (hl : ws.length ≤ 12) (hg : ∀ z ∈ ws, good z)
    (q : ∀ us : List Str, us.length = ws.length → (∀ z ∈ us, good z) → us.Nodup → Q (.ref S0.length) (S0 ++ [.lst (us.map .str)])) : W (fnV 1 4 bUnlike [.ref j] S0) Q E := by
  rw [show fnV 1 4 bUnlike [.ref j] S0 = fin S0 (bUnlike [some (.ref j), none, none, none] S0) from fnV_eq 1 4 _ _ _ rfl]
  refine f_body ?_
  unfold bUnlike
  rw [lt26_eq]
  refine s_seq ?_
  apply s_set
  · exact .succ .zero
  refine w_str SOk_lt26 ?_
  repeat walk_at "w"
  refine ⟨Nat.zero_le _, ?_⟩
  repeat walk_at "w"
  have hj := lt_of_get hn
  refine i_ref (get_app_lt hn) ?_
  refine s_loop (fun rest ρ T => Kp S0 T ∧ ∃ (us zs : List Str) (e3 : Option PV), rest = zs.map .str ∧ us.length + zs.length = ws.length ∧ (∀ z ∈ us, good z) ∧ us.Nodup ∧ (∀ z ∈ zs, good z) ∧ T[S0.length]? = some (.lst (us.map .str)) ∧ ρ = [some (.ref j), some (.str (S lt26)), some (.ref S0.length), e3])
    ⟨Kp.app _ _, [], ws, _, rfl, by simp, by simp, List.nodup_nil, hg, get_app _ _ _, rfl⟩ (fun x rest ρ T h => ?_) (fun ρ T h => ?_)
  · obtain ⟨K, us, zs, e3, hr, hlen, hgu, hnd, hgz, hT, rfl⟩ := h
    refine ⟨K.at hn, t_n (.succ (.succ (.succ .zero))) ?_⟩
    cases zs with
    | nil => cases hr
    | cons z zs =>
      simp only [List.map_cons, List.cons.injEq] at hr
      obtain ⟨rfl, rfl⟩ := hr
      simp only [List.length_cons] at hlen
      have gz := hgz z (by simp)
      obtain ⟨a, rfl⟩ := S_ex z
      obtain ⟨c, t, rfl⟩ : ∃ c t, a = c :: t := by
        cases a with
        | nil => have := gz.1; rw [len_S] at this; simp at this
        | cons c t => exact ⟨c, t, rfl⟩
      have gz := good_S.mp gz
      have hc : isLt c := gz.2.2 c (by simp)
      obtain ⟨M, hM, hM1, hM2⟩ := free_rot (us := us) (by omega) (c - 97) t
      have gw : ∀ k, good (wd (c - 97) t k) := fun k => good_S.mpr ⟨by simp, by simpa using gz.2.1, fun d hd => by
        rcases List.mem_cons.mp hd with rfl | hd
        · exact ⟨by omega, by omega⟩
        · exact gz.2.2 d (by simp [hd])⟩
      have e0 : S (c :: t) = wd (c - 97) t 0 := by
        unfold wd
        congr 2
        have := hc.1; have := hc.2
        omega
      refine s_seq ?_
      refine s_while (fun m ρ V => ∃ k, m + k = M ∧ Kp S0 V ∧ V[S0.length]? = some (.lst (us.map .str)) ∧ ρ = [some (.ref j), some (.str (S lt26)), some (.ref S0.length), some (.str (wd (c - 97) t k))]) M ⟨0, by simp, K, hT, by rw [e0]⟩ fun m ρ V h => ?_
      obtain ⟨k, hk, KV, hV, rfl⟩ := h
      have app : ∀ V, Kp S0 V → V[S0.length]? = some (.lst (us.map .str)) → wd (c - 97) t k ∉ us → WS (sExpr (vLm mAppend (vVar 2) (vsCons (vVar 3) vsNil)) [some (.ref j), some (.str (S lt26)), some (.ref S0.length), some (.str (wd (c - 97) t k))] V) fun o => TurnOk o (fun ρ T => Kp S0 T ∧ ∃ (us zs' : List Str) (e3 : Option PV), zs.map PV.str = zs'.map .str ∧ us.length + zs'.length = ws.length ∧ (∀ z ∈ us, good z) ∧ us.Nodup ∧ (∀ z ∈ zs', good z) ∧ T[S0.length]? = some (.lst (us.map .str)) ∧ ρ = [some (.ref j), some (.str (S lt26)), some (.ref S0.length), e3]) (fun r => WS (r.seq (sSeq (sRet (vVar 2)) sNil)) fun r => W (fin S0 r) Q E) := by
        intro V KV hV hnu
        repeat walk_at "w"
        refine o_getL hV ?_
        repeat walk_at "w"
        refine o_getL hV ?_
        refine o_app (by have := sizeLine_eq; simp; omega) ?_
        refine ⟨KV.setL (Nat.le_refl _) _, us ++ [wd (c - 97) t k], zs, _, rfl, by simp; omega, ?_, by rw [List.nodup_append]; exact ⟨hnd, by simp, fun x hx y hy => by rw [List.mem_singleton.mp hy]; rintro rfl; exact hnu hx⟩, fun z hz => hgz z (by simp [hz]), by rw [List.map_append]; exact get_set hV, rfl⟩
        intro z hz
        rcases List.mem_append.mp hz with hz | hz
        · exact hgu z hz
        · rw [List.mem_singleton.mp hz]; exact gw k
      have step : ∀ {Q' : SR → Prop} (V : Store), Kp S0 V → V[S0.length]? = some (.lst (us.map .str)) → k ≠ M → WS (sSet 3 (vBin oAdd (vBin oIdx (vVar 1) (vBin oMod (vBin oAdd (vSm mIndex (vVar 1) (vsCons (vBin oIdx (vVar 3) (vC (.int 0))) vsNil)) (vC (.int 1))) (vC (.int 26)))) (vSlc (vVar 3) (oSome (vC (.int 1))) oNone)) [some (.ref j), some (.str (S lt26)), some (.ref S0.length), some (.str (wd (c - 97) t k))] V) fun o => TurnOk o (fun ρ' S' => ∃ m', m' < m ∧ ∃ k, m' + k = M ∧ Kp S0 S' ∧ S'[S0.length]? = some (.lst (us.map .str)) ∧ ρ' = [some (.ref j), some (.str (S lt26)), some (.ref S0.length), some (.str (wd (c - 97) t k))]) Q' := by
        intro Q' V KV hV hne
        repeat walk_at "w"
        refine o_idxS (y := 97 + (c - 97 + k) % 26) (at0 (97 + (c - 97 + k) % 26) t) ?_
        repeat walk_at "w"
        refine o_index ⟨by omega, by omega⟩ ?_
        repeat walk_at "w"
        refine o_mod (by omega) ?_
        refine o_letter (by omega) (by omega) fun _ => ?_
        repeat walk_at "w"
        unfold wd
        rw [sCut, cut_from _ (by omega)]
        refine o_addS (by rw [len_S, len_S]; have := sizeLine_eq; have := gz.2.1; simp at this ⊢; omega) ?_
        refine ⟨m - 1, by omega, k + 1, by omega, KV, hV, ?_⟩
        rw [S_cat]
        congr 4
        simp only [Int.toNat_one, List.drop_succ_cons, List.drop_zero, List.singleton_append]
        have e : 97 + ((((97 + (c - 97 + k) % 26 - 97 : Nat) : Int) + 1) % 26).toNat = 97 + (c - 97 + (k + 1)) % 26 := by omega
        rw [e]
      repeat walk_at "w"
      refine o_in (in_strs hV _) ?_
      repeat walk_at "w"
      refine Br.dec (fun h1 => ?_) (fun h1 => ?_)
      · refine Br.tt ?_
        refine s_seqN ?_
        refine step V KV hV ?_
        rintro rfl
        exact hM1 h1
      · repeat walk_at "w"
        refine barred_w ?_
        refine o_in (in_strs (get_app _ _ _) _) ?_
        repeat walk_at "w"
        have K2 := KV.trans (Kp.app V [.lst (barL.map .str)])
        have hV2 : (V ++ [PObj.lst (barL.map PV.str)])[S0.length]? = some (.lst (us.map .str)) := get_app_lt hV
        refine Br.dec (fun h2 => ?_) (fun h2 => ?_)
        · refine s_seqN ?_
          refine step _ K2 hV2 ?_
          rintro rfl
          exact hM2 h2
        · refine q_nx ?_
          refine s_seqN ?_
          exact app _ K2 hV2 h1
  · obtain ⟨K, us, zs, e3, hr, hlen, hgu, hnd, hgz, hT, rfl⟩ := h
    refine ⟨K.at hn, ?_⟩
    cases zs with
    | cons z zs => cases hr
    | nil =>
      repeat walk_at "w"
      exact g_new K (Nat.le_refl _) hT (lows_strs _ _) (q us (by simpa using hlen) hgu hnd)
/-- letters that are drawn -/
theorem letters_w {QL : LL → Store → Prop} {i t : Nat} {ρ : Env'} {f : PV → Env'} {T0 : Store} {m : Nat} (ht : SetR ρ t f) (g0 : ∀ x, GetR (f x) 0 (.ref i)) (g2 : ∀ x, GetR (f x) 2 (.str (S lt26))) (hw : HasW i T0)
    (q : ∀ (cs : List Nat) (T : Store), Fr isWell i T0 T → T.length = T0.length → cs.length = m → (∀ c ∈ cs, isLt c) → QL (cs.map fun c => .str (S [c]), none) T) :
    W (compL (tgN t) bYes (vBin oIdx (vVar 2) (vApp (fnV 2 4 bTake) (vsCons (vVar 0) (vsCons (vC (.int 26)) vsNil)))) ρ (rangeL 0 m, none) (rangeL 0 m, (none : Option Lk)).1 [] T0) QL E := by
  refine w_turns (fun rest acc T => Fr isWell i T0 T ∧ T.length = T0.length ∧ ∃ cs : List Nat, acc = cs.map (fun c => .str (S [c])) ∧ cs.length + rest.length = m ∧ ∀ c ∈ cs, isLt c) ⟨(Kp.refl T0).fr hw, rfl, [], rfl, by simp [rangeL], by simp⟩ (fun x rest acc T h => ?_) (fun acc T h => ⟨trivial, ?_⟩)
  · obtain ⟨F, u, cs, rfl, hl, hc⟩ := h
    refine ⟨trivial, t_n ht ?_⟩
    repeat walk_at "w"
    · exact g2 x
    repeat walk_at "w"
    · exact g0 x
    repeat walk_at "w"
    refine take_w F.own (by omega) fun r V F3 u3 r0 r1 => ?_
    refine o_letter r0 r1 fun hlt => ?_
    refine ⟨F.trans F3, by omega, cs ++ [97 + r.toNat], by simp, by simp at hl ⊢; omega, fun c hc' => ?_⟩
    rcases List.mem_append.mp hc' with h | h
    · exact hc c h
    · rw [List.mem_singleton.mp h]; exact hlt
  · obtain ⟨F, u, cs, rfl, hl, hc⟩ := h
    exact q cs T F u (by simpa using hl) hc
theorem names_w {i : Nat} (hw : HasW i S0) (q : ∀ (ws : List Str) (U : Store), Fr isWell i S0 U → U.length = S0.length + 1 → U[S0.length]? = some (.lst (ws.map .str)) → ws.length = 12 → (∀ z ∈ ws, good z) → ws.Nodup → Q (.ref S0.length) U) : W (fnV 2 14 bNames [.ref i, .int 12] S0) Q E := by
  rw [show fnV 2 14 bNames [.ref i, .int 12] S0 = fin S0 (bNames [some (.ref i), some (.int 12), none, none, none, none, none, none, none, none, none, none, none, none] S0) from fnV_eq 2 14 _ _ _ rfl]
  refine f_body ?_
  unfold bNames
  rw [lt26_eq]
  refine s_seq ?_
  apply s_set
  · exact .succ (.succ .zero)
  refine w_str SOk_lt26 ?_
  repeat walk_at "w"
  refine rng1 ⟨by omega, by omega⟩ ?_
  simp only [wipeE, List.set_cons_succ, List.set_cons_zero]
  refine letters_w (.succ (.succ (.succ (.succ (.succ (.succ (.succ (.succ .zero)))))))) (fun x => .zero) (fun x => .succ (.succ .zero)) hw fun b T F u hb hbl => ?_
  refine o_join (fun c hc => by have := (hbl c hc).2; omega) (by simp at hb; omega) ?_
  replace hb : b.length = 8 := hb
  repeat walk_at "w"
  refine take_w F.own (by omega) fun way T1 F1 u1 w0 w1 => ?_
  repeat walk_at "w"
  refine take_w F1.own (by omega) fun lo T2 F2 u2 l0 l1 => ?_
  repeat walk_at "w"
  refine take_w F2.own (by omega) fun at' T3 F3 u3 a0 a1 => ?_
  repeat walk_at "w"
  refine ⟨Nat.zero_le _, ?_⟩
  repeat walk_at "w"
  refine rng1 ⟨by omega, by omega⟩ ?_
  have hi := hw.lt
  have F03 := ((F.trans F1).trans F2).trans F3
  have u03 : T3.length = S0.length := by omega
  rw [u03]
  have hT0 : (T3 ++ [PObj.lst []])[S0.length]? = some (.lst (([] : List Str).map .str)) := by rw [← u03]; exact get_app _ _ _
  have hne : S0.length ≠ i := by omega
  refine s_loop (fun rest ρ T => Fr isWell i S0 T ∧ T.length = S0.length + 1 ∧ ∃ (ws : List Str) (e8 e9 e10 e11 : Option PV), T[S0.length]? = some (.lst (ws.map .str)) ∧ (∀ z ∈ ws, good z) ∧ (∀ x ∈ rest, ∃ k : Nat, x = .int (k : Int)) ∧ ws.length + rest.length = 12 ∧
    ρ = [some (.ref i), some (.int 12), some (.str (S lt26)), some (.str (S b)), some (.int way), some (.int (1 + lo)), some (.int at'), some (.ref S0.length), e8, e9, e10, e11, none, none])
    ⟨F03.kp (Kp.app _ _), by simp [u03], [], _, _, _, _, hT0, by simp, fun x hx => by
      obtain ⟨k, _, rfl⟩ := mem_rangeL.mp hx
      exact ⟨k, rfl⟩, by simp [rangeL], rfl⟩ (fun x rest ρ T h => ?_) (fun ρ T h => ⟨trivial, ?_⟩)
  · obtain ⟨FT, uT, ws, e8, e9, e10, e11, hT, hg, hx, hl, rfl⟩ := h
    refine ⟨trivial, t_n (.succ (.succ (.succ (.succ (.succ (.succ (.succ (.succ .zero)))))))) ?_⟩
    obtain ⟨k, rfl⟩ := hx x (by simp)
    simp only [List.length_cons] at hl
    have app : ∀ {Q' : SR → Prop} (V : Store) (z : Str) (e8 e9 e11 : Option PV), good z → Fr isWell i S0 V → V.length = S0.length + 1 → V[S0.length]? = some (.lst (ws.map .str)) →
        WS (sExpr (vLm mAppend (vVar 7) (vsCons (vVar 10) vsNil)) [some (.ref i), some (.int 12), some (.str (S lt26)), some (.str (S b)), some (.int way), some (.int (1 + lo)), some (.int at'), some (.ref S0.length), e8, e9, some (.str z), e11, none, none] V) fun o => TurnOk o (fun ρ T => Fr isWell i S0 T ∧ T.length = S0.length + 1 ∧ ∃ (ws : List Str) (e8 e9 e10 e11 : Option PV), T[S0.length]? = some (.lst (ws.map .str)) ∧ (∀ z ∈ ws, good z) ∧ (∀ x ∈ rest, ∃ k : Nat, x = .int (k : Int)) ∧ ws.length + rest.length = 12 ∧
          ρ = [some (.ref i), some (.int 12), some (.str (S lt26)), some (.str (S b)), some (.int way), some (.int (1 + lo)), some (.int at'), some (.ref S0.length), e8, e9, e10, e11, none, none])
          Q' := by
      intro Q' V z e8 e9 e11 gz FV uV hV
      repeat walk_at "w"
      refine o_getL hV ?_
      repeat walk_at "w"
      refine o_getL hV ?_
      refine o_app (by have := sizeLine_eq; simp; omega) ?_
      refine ⟨FV.setL (Nat.le_refl _) hne _, by simp [PV.num, uV], ws ++ [z], _, _, _, _, by rw [List.map_append]; exact get_set hV, fun y hy => ?_, fun x h => hx x (by simp [h]), by simp; omega, rfl⟩
      rcases List.mem_append.mp hy with hy | hy
      · exact hg y hy
      · rw [List.mem_singleton.mp hy]; exact gz
    repeat walk_at "w"
    obtain ⟨c, hc, hcb⟩ := atI_ex (xs := b) (k := at') a0 (by omega)
    refine o_idxS (y := c) hc ?_
    repeat walk_at "w"
    refine o_index (hbl c hcb) ?_
    repeat walk_at "w"
    refine o_mod (by omega) ?_
    refine o_letter (by omega) (by omega) fun hlt => ?_
    repeat walk_at "w"
    rw [sCut, cut_to _ a0]
    refine o_addS (by rw [len_S, len_S]; have := sizeLine_eq; simp; omega) ?_
    repeat walk_at "w"
    rw [sCut, cut_mid _ (by omega) (by omega), S_cat]
    refine o_addS (by rw [len_S, len_S]; have := sizeLine_eq; simp; omega) ?_
    rw [S_cat]
    repeat walk_at "w"
    by_cases c0 : way = 0
    · refine Br.of_tt (by simp [c0]) ?_
      repeat walk_at "w"
      refine o_mod (by omega) ?_
      iterate 3 walk_at "w"
      rw [sCut, cut_to _ (by omega)]
      refine q_nx ?_
      refine s_seqN ?_
      refine app _ _ _ _ _ (good_S.mpr ⟨by simp; omega, by simp; omega, fun d hd => hbl d (List.mem_of_mem_take hd)⟩) FT uT hT
    refine Br.of_ff (by simp [c0]) ?_
    repeat walk_at "w"
    by_cases c1 : way = 1
    · refine Br.of_tt (by simp [c1]) ?_
      repeat walk_at "w"
      refine take_w FT.own (by omega) fun r4 V4 F4 u4 r40 r41 => ?_
      repeat walk_at "w"
      refine rng1 ⟨by omega, by omega⟩ ?_
      simp only [wipeE, List.set_cons_succ, List.set_cons_zero]
      refine letters_w (.succ (.succ (.succ (.succ (.succ (.succ (.succ (.succ (.succ (.succ (.succ (.succ (.succ .zero))))))))))))) (fun x => .zero) (fun x => .succ (.succ .zero)) F4.own fun b2 V5 F5 u5 hb2 hbl2 => ?_
      refine o_join (fun c hc => by have := (hbl2 c hc).2; omega) (by omega) ?_
      have F45 := F4.trans F5
      refine q_nx ?_
      refine s_seqN ?_
      refine app _ _ _ _ _ (good_S.mpr ⟨by omega, by omega, hbl2⟩) (FT.trans F45) (by omega) (F45.of hT hne)
    · refine Br.of_ff (by simp [c1]) ?_
      refine s_nil ?_
      refine q_nx ?_
      refine s_seqN ?_
      refine app _ _ _ _ _ (good_S.mpr ⟨by simp; omega, by simp; omega, fun d hd => ?_⟩) FT uT hT
      simp only [List.mem_append, List.mem_singleton] at hd
      rcases hd with (hd | rfl) | hd
      · exact hbl d (List.mem_of_mem_take hd)
      · exact hlt
      · exact hbl d (List.mem_of_mem_drop (List.mem_of_mem_take hd))
  · obtain ⟨FT, uT, ws, e8, e9, e10, e11, hT, hg, hx, hl, rfl⟩ := h
    simp only [List.length_nil, Nat.add_zero] at hl
    have last : ∀ (V : Store) (us : List Str) (e12 : Option PV), Fr isWell i S0 V → us.length = 12 → (∀ z ∈ us, good z) → V[S0.length]? = some (.lst (us.map .str)) →
        WS (sRet (vApp (fnV 1 4 bUnlike) (vsCons (vVar 7) vsNil)) [some (.ref i), some (.int 12), some (.str (S lt26)), some (.str (S b)), some (.int way), some (.int (1 + lo)), some (.int at'), some (.ref S0.length), e8, e9, e10, e11, e12, none] V) fun r => W (fin S0 r) Q E := by
      intro V us e12 FV hl hg hV
      repeat walk_at "w"
      refine unlike_w hV (by omega) hg fun us2 h2 g2 nd2 => ?_
      refine f_ret ?_
      exact g_frNew (FV.kp (Kp.app _ _)) lowW hi FV.le (get_app _ _ _) (lows_strs _ _) fun U FU uU hU => q us2 U FU uU hU (by omega) g2 nd2
    repeat walk_at "w"
    refine take_w FT.own (by omega) fun r4 V4 F4 u4 r40 r41 => ?_
    repeat walk_at "w"
    have F04 := FT.trans F4
    by_cases c0 : r4 = 1
    · refine Br.of_tt (by simp [c0]) ?_
      repeat walk_at "w"
      refine ⟨by have := sizeLine_eq; simp; omega, ?_⟩
      repeat walk_at "w"
      have F5 := F04.kp (Kp.app V4 [PObj.lst [PV.str "done", .str "open", .str "room", .str "none", .str "yes", .str "no"]])
      refine take_w F5.own (by omega) fun r6 V6 F6 u6 r60 r61 => ?_
      obtain ⟨z, hz, hm⟩ := atI_ex (xs := (["done", "open", "room", "none", "yes", "no"] : List Str)) (k := r6) r60 (by simpa using r61)
      have gz : good z := by
        have : ∀ z ∈ (["done", "open", "room", "none", "yes", "no"] : List Str), 1 ≤ z.length ∧ z.length ≤ 8 ∧ z.cps.toList.all (fun c => decide (97 ≤ c) && decide (c < 123)) = true := by decide +kernel
        obtain ⟨h1, h2, h3⟩ := this z hm
        refine ⟨h1, h2, fun c hc => ?_⟩
        have := List.all_eq_true.mp h3 c hc
        simp only [Bool.and_eq_true, decide_eq_true_eq] at this
        exact this
      have h6 : V6[V4.length]? = some (.lst ((["done", "open", "room", "none", "yes", "no"] : List Str).map .str)) := F6.of (get_app _ _ _) (by have := F04.le; omega)
      refine o_idxR (y := .str z) h6 (by rw [atI_map, hz]; rfl) ?_
      repeat walk_at "w"
      refine take_w F6.own (by omega) fun r7 V7 F7 u7 r70 r71 => ?_
      have F07 := (F5.trans F6).trans F7
      have h7 : V7[S0.length]? = some (.lst (ws.map .str)) := F7.of (F6.of (get_app_lt (F4.of hT hne)) hne) hne
      refine o_st (n := r7.toNat) h7 (ixN_in r70 (by simp; omega)) ?_
      refine q_nx ?_
      refine s_seqN ?_
      refine last _ (ws.set r7.toNat z) _ (F07.setL (Nat.le_refl _) hne _) (by simp [hl]) (fun y hy => ?_) (by rw [List.map_set]; exact get_set h7)
      rcases List.mem_or_eq_of_mem_set hy with h | rfl
      · exact hg y h
      · exact gz
    · refine Br.of_ff (by simp [c0]) ?_
      refine s_nil ?_
      refine q_nx ?_
      refine s_seqN ?_
      exact last V4 ws _ F04 hl hg (F4.of hT hne)
/-! a well -/
noncomputable def bWell : TSt :=
  (sSeq (sSet 2 (vC (.int 0))) (sSeq (sIf (bBl (vBin oLt (vVar 1) (vCall fLen (vsCons (vVar 0) vsNil)))) (sSeq (sSet 2 (vBin oIdx (vVar 0) (vVar 1))) sNil) sNil) (sSeq (sRet (vNew (lDisp (vsCons (vBin oMul (vVar 2) (vCall fInt (vsCons (vBin oGe (vVar 2) (vBin oPow (vC (.int 10)) (vC (.int 18)))) vsNil))) (vsCons (vBin oAdd (vBin oMod (vVar 2) (vC (.int 2147483647))) (vBin oMul (vC (.int 7)) (vVar 1))) (vsCons (vC (.int 0)) vsNil)))))) sNil)))
theorem well_w {ns : List Int} {k : Int} (hk : 0 ≤ k ∧ k ≤ 1000) (q : ∀ o, isWell o → Q (.ref S0.length) (S0 ++ [o])) : W (fnV 2 3 bWell [.frl (ns.map .int), .int k] S0) Q E := by
  rw [show fnV 2 3 bWell [.frl (ns.map .int), .int k] S0 = fin S0 (bWell [some (.frl (ns.map .int)), some (.int k), none] S0) from fnV_eq 2 3 _ _ _ rfl]
  refine f_body ?_
  unfold bWell
  repeat walk_at "w"
  have rest : ∀ c : Int, WS (sRet (vNew (lDisp (vsCons (vBin oMul (vVar 2) (vCall fInt (vsCons (vBin oGe (vVar 2) (vBin oPow (vC (.int 10)) (vC (.int 18)))) vsNil))) (vsCons (vBin oAdd (vBin oMod (vVar 2) (vC (.int 2147483647))) (vBin oMul (vC (.int 7)) (vVar 1))) (vsCons (vC (.int 0)) vsNil))))) [some (.frl (ns.map .int)), some (.int k), some (.int c)] S0) fun r => W (fin S0 r) Q E := by
    intro c
    repeat walk_at "w"
    refine o_pow (by decide) ?_
    repeat walk_at "w"
    refine o_mul (.inr ?_) ?_
    · split <;> omega
    repeat walk_at "w"
    refine o_mod (by omega) ?_
    repeat walk_at "w"
    refine o_mul (.inl (by omega)) ?_
    repeat walk_at "w"
    refine ⟨by have := sizeLine_eq; simp; omega, ?_⟩
    repeat walk_at "w"
    exact g_new (Kp.app _ _) (Nat.le_refl _) (get_app _ _ _) rfl (q _ ⟨_, _, _, rfl⟩)
  refine Br.dec (fun h => ?_) (fun h => ?_)
  · repeat walk_at "w"
    obtain ⟨z, hz, _⟩ := atI_ex (xs := ns) (k := k) hk.1 (by simpa using h)
    refine Op.of (x := .int z) (by rw [x_idxF, atI_map, hz]; rfl) ?_
    refine q_nx ?_
    refine s_seqN ?_
    exact rest z
  · refine s_nil ?_
    refine q_nx ?_
    refine s_seqN ?_
    exact rest 0
end
end Ev

/-! Fw18: how many texts are unlike: the number of a set's texts. -/
namespace Ev
open PySem PySem.Spec PyProof.Rows
/-- one more text: it counts if it is new -/
def oneMore (l : List Str) (x : Str) : List Str := if x ∈ l then l else l ++ [x]
def unlikes (xs : List Str) : List Str := xs.foldl oneMore []
theorem unlikes_snoc (xs : List Str) (x : Str) : unlikes (xs ++ [x]) = oneMore (unlikes xs) x := by
  unfold unlikes; rw [List.foldl_append]; rfl
theorem mem_oneMore {l : List Str} {x k : Str} : k ∈ oneMore l x ↔ k ∈ l ∨ k = x := by
  unfold oneMore
  by_cases h : x ∈ l
  · rw [if_pos h]
    exact ⟨.inl, fun e => e.elim _root_.id fun e => by rw [e]; exact h⟩
  · rw [if_neg h]; simp
theorem len_oneMore (l : List Str) (x : Str) : (oneMore l x).length = if decide (x ∈ l) = true then l.length else l.length + 1 := by
  unfold oneMore
  by_cases h : x ∈ l <;> simp [h]
theorem unlikes_le (xs : List Str) : ∀ i, (unlikes (xs.take i)).length ≤ i
  | 0 => by simp [unlikes]
  | i + 1 => by
    have ih := unlikes_le xs i
    by_cases h : i < xs.length
    · rw [List.take_succ_eq_append_getElem h, unlikes_snoc, len_oneMore]
      split <;> omega
    · rw [List.take_of_length_le (by omega)]
      rw [List.take_of_length_le (by omega)] at ih
      omega
abbrev TxtSet (prog : Program) (w : World) (h : Heap) (a : Addr) (l : List Str) : Prop := h.SetOf (PySem.strKind prog w) a (fun k => decide (k ∈ l)) l.length
section
variable {prog : Program} {w : World} {A : Around} {R : Result → Shared → Prop} {I : Addr} {fp wr : List Addr} {G : Array GenState → Array GenState → Prop} {n : Nat} {P : Nat → Value → Prop} {St : Nat → Shared → Prop}
theorem TxtSet.keep {h h' : Heap} {a : Addr} {l : List Str} (t : TxtSet prog w h a l) (k : ∀ o, h.get? a = some o → h'.get? a = some o) : TxtSet prog w h' a l := by
  obtain ⟨o, es, ep, tb, e, r⟩ := t
  exact ⟨o, es, ep, tb, k o e, r⟩
/-- the turns of the filling -/
theorem fill_from (wk : WalksS prog w A.in1 I fp wr G n P St) (D : Addr) (hD : D ∉ fp) (xs : List Str) (hn : xs.length = n) (few : n + 1 < scanBound) (val : ∀ i v, P i v → ∃ t, v = .str (xs.getD i Str.empty) t) (left : Nat) :
    ∀ (i : Nat) (s : Shared), i + left = n → St i s → TxtSet prog w s.heap D (unlikes (xs.take i)) →
      (∀ s', Moved (D :: wr) G s s' → TxtSet prog w s'.heap D (unlikes xs) → R (.ok (.ret .none)) s') → codeAny (model prog w) A (.builtin "set.update.loop" ⟨[.ref D, .ref I], []⟩) R s := by
  have wide : ∀ b ∈ wr, b ∈ D :: wr := fun b h => List.mem_cons_of_mem _ h
  have apart : D ∉ wr := fun h => hD (wk.sub _ h)
  induction left with
  | zero =>
    intro i s hi st ds goal
    obtain rfl : i = n := hi
    refine codeAny_builtin PyProof.Rows.F.entry_set_update_loop ?_; rw [Around.under_plainId PyProof.Rows.F.plain_set_update_loop _]
    refine wpAny_bind (m := pyNext (.ref I)) (wk.done s _ _ st fun s' mv => ?_)
    rw [List.take_of_length_le (by omega)] at ds
    have last := goal s' (mv.mono wide) (ds.keep fun o => mv.heap D o apart)
    show wpAny _ A.in1 (ret Value.none) _ _ s'; exact wpAny_pure last
  | succ left ih =>
    intro i s hi st ds goal
    have lt : i < n := by omega
    have sz : i < xs.length := by omega
    refine codeAny_builtin PyProof.Rows.F.entry_set_update_loop ?_; rw [Around.under_plainId PyProof.Rows.F.plain_set_update_loop _]
    refine wpAny_bind (m := pyNext (.ref I)) (wk.item i s _ _ lt st fun v s' pv st' mv => ?_)
    obtain ⟨t, rfl⟩ := val i v pv
    have ex : xs.getD i Str.empty = xs[i] := by simp [List.getD_eq_getElem?_getD, sz]
    rw [ex]
    have ds' : TxtSet prog w s'.heap D (unlikes (xs.take i)) := ds.keep fun o => mv.heap D o apart
    refine wpAny_bind (m := holding [Value.str xs[i] t] (setAdd D (.str xs[i] t))) (wpAny_holding ?_)
    unfold setAdd
    refine wpAny_holding (wpAny_bind ((PySem.strKind prog w).pyHash (k := xs[i]) (strKind_is _ _ _ _) ?_))
    have room : (unlikes (xs.take i)).length + 1 < scanBound := by have := unlikes_le xs i; omega
    refine wpAny_setAddHashed_of (knd := PySem.strKind prog w) (s := { s' with toks := s'.toks + 1 }) (strKind_is _ _ _ _) rfl ds' room fun h' one ds2 => ?_
    have nx : TxtSet prog w h' D (unlikes (xs.take (i + 1))) := by
      rw [List.take_succ_eq_append_getElem sz, unlikes_snoc]
      refine PyProof.Rows.SetOf_congr ds2 (fun k => ?_) (by rw [len_oneMore])
      rw [Bool.eq_iff_iff]
      simp [mem_oneMore]
    have kept : ∀ b ∈ fp, ∀ o, s'.heap.get? b = some o → h'.get? b = some o := fun b hb o e => (one.2 b fun z => hD (z ▸ hb)).trans e
    refine wpAny_pure ⟨plainId_quiet PyProof.Rows.F.plain_set_update_loop _, ih (i + 1) _ (by omega) (wk.frame _ s' _ _ st' (Nat.le_succ _) kept) nx fun s'' mv2 ds3 => goal s'' ?_ ds3⟩
    refine Moved.trans wk.gtrans ((mv.mono wide).then_heap (Nat.le_succ _) fun b o hb e => ?_) mv2
    exact (one.2 b fun z => hb (by rw [z]; exact List.mem_cons_self)).trans e
end
/-! ### set(xs) -/
/-- a set that holds nothing yet -/
abbrev bareSet (led : Bool) : Obj := { cls := .type "set", dict := none, data := .set #[] 0 (.fresh 0 0 led) }
section
variable {prog : Program} {w : World} {A : Around} {E : Value → Shared → Prop} {s : Shared}
set_option maxHeartbeats 3200000 in
/-- set(xs), xs a list of texts -/
theorem set_of_list {l : Addr} {its : Array Value} {xs : List Str} {Q : Value → Shared → Prop} (calm : A.handled = none) (isl : s.heap.IsList l its) (are : StrsAre its.toList xs) (few : its.size + 1 < scanBound)
    (goal : ∀ (h' : Heap) (tk : Nat), TxtSet prog w h' s.heap.objs.size (unlikes xs) → (∀ b o, b < s.heap.objs.size → s.heap.get? b = some o → h'.get? b = some o) → Q (.ref s.heap.objs.size) { s with heap := h', toks := tk }) :
    wpAny (model prog w) A (call (.type "set") [.ref l]) Q E s := by
  obtain ⟨mc, mt, mro⟩ := PySem.F.called_set.mro
  have made := PySem.F.called_set.made
  have below := PySem.F.called_set.sub
  have noType := PySem.F.called_set.notType
  have creates := PySem.F.called_set.canCreate
  have checked := PySem.F.typeCall_set_1 (.ref l)
  refine wpAny_call (codeAny_of_tree ?_); show wpAny _ _ (callAny (.type "set") _) _ _ _
  refine wpAny_pure ⟨Code.quiet_builtin _ (by decide +kernel), ?_⟩; refine codeAny_builtin PySem.F.entry_type_call ?_
  rw [Around.under_plain (weight_type_call_type "set" [.ref l] []) rfl]
  repeat (any_goals (first | assumption | wp_step))
  refine codeAny_mono (code_set_new_1 (.ref l) (E := E) (Q₁ := fun r t => ∃ led, r = .ref s.heap.objs.size ∧ t = { s with heap := s.heap.push (bareSet led) }) fun led => ⟨led, rfl, rfl⟩) fun r t hr => ?_
  rcases r with e | fl
  · exact hr
  cases fl with
  | ret obj =>
    obtain ⟨led, rfl, rfl⟩ := hr
    have isNew : (s.heap.push (bareSet led)).get? s.heap.objs.size = some (bareSet led) := Heap.get?_push_size _ rfl
    have isSet : Shared.TypeIs { s with heap := s.heap.push (bareSet led) } (.ref s.heap.objs.size) "set" := ⟨_, isNew, rfl⟩
    have looks := PySem.F.called_set.init.lookup
    have binds := PySem.F.called_set.init.bind (.ref s.heap.objs.size)
    repeat (any_goals (first | assumption | wp_step))
    refine codeAny_mono (codeAny_call_builtin (R := wants (fun r t => r = .none ∧ ∃ h' tk, t = { s with heap := h', toks := tk } ∧ TxtSet prog w h' s.heap.objs.size (unlikes xs) ∧ (∀ b o, b < s.heap.objs.size → s.heap.get? b = some o → h'.get? b = some o)) E) PySem.F.called_set.init.plain PySem.F.entry_set_init (check_set_init_1 isSet ?_)) fun r2 t2 hr2 => ?_
    · obtain ⟨⟨oc, od, dat, sl⟩, ho, hc, cnt, hd⟩ := isl
      simp only at hc hd
      subst hc hd
      have ho' : (s.heap.push (bareSet led)).get? l = some { cls := .type "list", dict := od, data := .seq its cnt, slots := sl } := Heap.get?_push_of_some _ ho
      have n1 := PySem.F.sub_list_set
      have n2 := PySem.F.sub_list_frozenset
      have n3 : (Value.type "list" == Value.type "dict") = false := by decide
      have isl' : (s.heap.push (bareSet led)).IsList l its := ⟨_, ho', rfl, cnt, rfl⟩
      unfold Builtin.«set.__init__» noKeywords Builtin.Frozenset.updateFrom
      generalize hit : pyIter = it
      wp_walk
      subst hit
      refine wpAny_pyIter_list isl' (wpAny_bind (wpAny_runValue ?_))
      have lt : l < s.heap.objs.size := Heap.lt_size ho
      have sz1 : (s.heap.push (bareSet led)).objs.size = s.heap.objs.size + 1 := Heap.size_push ..
      have far : l ≠ (s.heap.push (bareSet led)).objs.size := sz1 ▸ Nat.ne_of_lt (Nat.lt_succ_of_lt lt)
      have len : xs.length = its.size := by rw [← StrsAre.len_eq are, Array.length_toList]
      refine fill_from ((Walks.list (show A.in1.in1.in1.handled = none by simp [calm]) _ l far its).toS) s.heap.objs.size (fun hm => (List.mem_cons.mp hm).elim (fun z => Nat.ne_of_lt (Nat.lt_succ_self _) (z.trans sz1)) fun z => Nat.ne_of_gt lt (List.mem_singleton.mp z)) xs len few (fun i v hv => SS.strs_at are i v (by rw [Array.getElem?_toList]; exact hv)) its.size 0 _ (by omega) ⟨⟨_, Heap.get?_push_size _ rfl, rfl, rfl⟩, isl'.push _⟩ ?_ ?_
      · have kept : ((s.heap.push (bareSet led)).push { cls := .type "list_iterator", data := .fields #[.ref l, .int 0 0] }).get? s.heap.objs.size = some (bareSet led) := Heap.get?_push_of_some _ isNew
        exact PyProof.Rows.SetOf_congr ((PyProof.Rows.setObjOf_fresh (knd := PySem.strKind prog w) led).setOf kept (by unfold scanBound; omega)) (fun k => by simp [unlikes]) (by simp [unlikes])
      · rintro ⟨h', g', d', tk', os'⟩ mv ts
        obtain rfl : g' = s.gens := mv.gens
        obtain rfl : d' = s.drawn := mv.drawn
        obtain rfl : os' = s.os := mv.os
        refine (wpAny_pure ?_ : wpAny _ _ _ _ _ _)
        show wpAny _ _ (ret Value.none) _ _ _
        refine wpAny_pure ⟨rfl, h', tk', rfl, ts, fun b o hb e => mv.heap b o ?_ (Heap.get?_push_of_some _ (Heap.get?_push_of_some _ e))⟩
        simp only [List.mem_cons, List.not_mem_nil, or_false, not_or]
        exact ⟨Nat.ne_of_lt hb, sz1 ▸ Nat.ne_of_lt (Nat.lt_succ_of_lt hb)⟩
    · rcases r2 with e | fl2
      · exact hr2
      cases fl2 with
      | ret r =>
        obtain ⟨rfl, h', tk, rfl, ts, kp⟩ := hr2
        repeat (any_goals (first | assumption | wp_step))
        exact goal _ _ ts kp
      | _ => exact hr2.elim
  | _ => exact hr.elim
end
section
variable {prog : Program} {w : World} {A : Around} {E : Value → Shared → Prop} {s : Shared}
set_option maxHeartbeats 3200000 in
/-- set(xs), xs a tuple of texts -/
theorem set_of_tuple {l : Addr} {its : Array Value} {xs : List Str} {Q : Value → Shared → Prop} (calm : A.handled = none) (isl : s.heap.IsTuple l its) (are : StrsAre its.toList xs) (few : its.size + 1 < scanBound)
    (goal : ∀ (h' : Heap) (tk : Nat), TxtSet prog w h' s.heap.objs.size (unlikes xs) → (∀ b o, b < s.heap.objs.size → s.heap.get? b = some o → h'.get? b = some o) → Q (.ref s.heap.objs.size) { s with heap := h', toks := tk }) :
    wpAny (model prog w) A (call (.type "set") [.ref l]) Q E s := by
  obtain ⟨mc, mt, mro⟩ := PySem.F.called_set.mro
  have made := PySem.F.called_set.made
  have below := PySem.F.called_set.sub
  have noType := PySem.F.called_set.notType
  have creates := PySem.F.called_set.canCreate
  have checked := PySem.F.typeCall_set_1 (.ref l)
  refine wpAny_call (codeAny_of_tree ?_); show wpAny _ _ (callAny (.type "set") _) _ _ _
  refine wpAny_pure ⟨Code.quiet_builtin _ (by decide +kernel), ?_⟩; refine codeAny_builtin PySem.F.entry_type_call ?_
  rw [Around.under_plain (weight_type_call_type "set" [.ref l] []) rfl]
  repeat (any_goals (first | assumption | wp_step))
  refine codeAny_mono (code_set_new_1 (.ref l) (E := E) (Q₁ := fun r t => ∃ led, r = .ref s.heap.objs.size ∧ t = { s with heap := s.heap.push (bareSet led) }) fun led => ⟨led, rfl, rfl⟩) fun r t hr => ?_
  rcases r with e | fl
  · exact hr
  cases fl with
  | ret obj =>
    obtain ⟨led, rfl, rfl⟩ := hr
    have isNew : (s.heap.push (bareSet led)).get? s.heap.objs.size = some (bareSet led) := Heap.get?_push_size _ rfl
    have isSet : Shared.TypeIs { s with heap := s.heap.push (bareSet led) } (.ref s.heap.objs.size) "set" := ⟨_, isNew, rfl⟩
    have looks := PySem.F.called_set.init.lookup
    have binds := PySem.F.called_set.init.bind (.ref s.heap.objs.size)
    repeat (any_goals (first | assumption | wp_step))
    refine codeAny_mono (codeAny_call_builtin (R := wants (fun r t => r = .none ∧ ∃ h' tk, t = { s with heap := h', toks := tk } ∧ TxtSet prog w h' s.heap.objs.size (unlikes xs) ∧ (∀ b o, b < s.heap.objs.size → s.heap.get? b = some o → h'.get? b = some o)) E) PySem.F.called_set.init.plain PySem.F.entry_set_init (check_set_init_1 isSet ?_)) fun r2 t2 hr2 => ?_
    · obtain ⟨⟨oc, od, dat, sl⟩, ho, hc, cnt, hd⟩ := isl
      simp only at hc hd
      subst hc hd
      have ho' : (s.heap.push (bareSet led)).get? l = some { cls := .type "tuple", dict := od, data := .seq its cnt, slots := sl } := Heap.get?_push_of_some _ ho
      have n1 := PySem.F.sub_tuple_set
      have n2 := PySem.F.sub_tuple_frozenset
      have n3 : (Value.type "tuple" == Value.type "dict") = false := by decide
      have isl' : (s.heap.push (bareSet led)).IsTuple l its := ⟨_, ho', rfl, cnt, rfl⟩
      unfold Builtin.«set.__init__» noKeywords Builtin.Frozenset.updateFrom
      generalize hit : pyIter = it
      wp_walk
      subst hit
      refine wpAny_pyIter_tuple isl' (wpAny_bind (wpAny_runValue ?_))
      have lt : l < s.heap.objs.size := Heap.lt_size ho
      have sz1 : (s.heap.push (bareSet led)).objs.size = s.heap.objs.size + 1 := Heap.size_push ..
      have far : l ≠ (s.heap.push (bareSet led)).objs.size := sz1 ▸ Nat.ne_of_lt (Nat.lt_succ_of_lt lt)
      have len : xs.length = its.size := by rw [← StrsAre.len_eq are, Array.length_toList]
      refine fill_from ((Walks.tuple (show A.in1.in1.in1.handled = none by simp [calm]) _ l far its).toS) s.heap.objs.size (fun hm => (List.mem_cons.mp hm).elim (fun z => Nat.ne_of_lt (Nat.lt_succ_self _) (z.trans sz1)) fun z => Nat.ne_of_gt lt (List.mem_singleton.mp z)) xs len few (fun i v hv => SS.strs_at are i v (by rw [Array.getElem?_toList]; exact hv)) its.size 0 _ (by omega) ⟨⟨_, Heap.get?_push_size _ rfl, rfl, rfl⟩, isl'.push _⟩ ?_ ?_
      · have kept : ((s.heap.push (bareSet led)).push { cls := .type "tuple_iterator", data := .fields #[.ref l, .int 0 0] }).get? s.heap.objs.size = some (bareSet led) := Heap.get?_push_of_some _ isNew
        exact PyProof.Rows.SetOf_congr ((PyProof.Rows.setObjOf_fresh (knd := PySem.strKind prog w) led).setOf kept (by unfold scanBound; omega)) (fun k => by simp [unlikes]) (by simp [unlikes])
      · rintro ⟨h', g', d', tk', os'⟩ mv ts
        obtain rfl : g' = s.gens := mv.gens
        obtain rfl : d' = s.drawn := mv.drawn
        obtain rfl : os' = s.os := mv.os
        refine (wpAny_pure ?_ : wpAny _ _ _ _ _ _)
        show wpAny _ _ (ret Value.none) _ _ _
        refine wpAny_pure ⟨rfl, h', tk', rfl, ts, fun b o hb e => mv.heap b o ?_ (Heap.get?_push_of_some _ (Heap.get?_push_of_some _ e))⟩
        simp only [List.mem_cons, List.not_mem_nil, or_false, not_or]
        exact ⟨Nat.ne_of_lt hb, sz1 ▸ Nat.ne_of_lt (Nat.lt_succ_of_lt hb)⟩
    · rcases r2 with e | fl2
      · exact hr2
      cases fl2 with
      | ret r =>
        obtain ⟨rfl, h', tk, rfl, ts, kp⟩ := hr2
        repeat (any_goals (first | assumption | wp_step))
        exact goal _ _ ts kp
      | _ => exact hr2.elim
  | _ => exact hr.elim
end
end Ev

/-! Fw19: len(set(xs)) of texts, as an expression. -/
namespace Ev
open PySem PySem.Spec PyProof.Rows L2
def tLenU (K : PySem.W.Frag) (ta : TE) : TE := fun σ H Q => ta σ H fun x H1 => ∃ (l : Addr) (xs : List Str), x = .ref l ∧ (SqL K H1 l (xs.map V.str) ∨ SqT K H1 l (xs.map V.str)) ∧ xs.length ≤ 4000 ∧ Q (.int (unlikes xs).length) H1
def lenU (xs : List PV) (S : Store) : Res PV := match asStr xs with
  | some bs => if bs.length ≤ 4000 then .ok (.int (unlikes bs).length) S else .bad
  | none => .bad
def vLenSet (a : TV) : TV := fun ρ S => (a ρ S).bind fun x S => match deref S x with
  | .frl xs => lenU xs S
  | .tup xs => lenU xs S
  | _ => .bad
section
variable {X : Cx} {W : WX} {a : Expr} {ta : TE} {ea : TV} {p p2 q pos : Pos}
theorem unlikes_len (xs : List Str) : (unlikes xs).length ≤ xs.length := by
  have := unlikes_le xs xs.length
  rwa [List.take_length] at this
theorem pe_lenU (hc : X.calm = true) (gl : Gl X "len") (ml : X.mg "len" = none) (gs : Gl X "set") (ms : X.mg "set" = none) (ha : PE X a ta) (na : starEach [a] X.env = (false, eval a X.env) :: starEach [] X.env := by rfl) :
    PE X (.Call (.Name "len" p) [.Call (.Name "set" p2) [a] [] q] [] pos) (tLenU X.K ta) := by
  refine ⟨fun pins s σ H Q I h => Call_ (ld_blt I gl ml PySem.boot_len ?_)⟩
  refine PyProof.Rows.callWith_builtin1 (PyProof.Rows.args_cons (Call_ (ld_blt I gs ms PyProof.Rows.boot_set ?_)) rfl) rfl rfl
  refine PyProof.Rows.callWith_type1 (PyProof.Rows.args_cons (thn (ha.run pins s σ H _ I h) fun v t ⟨x, H1, J, rv, g⟩ => PyProof.Rows.args_nil ?_) na) na rfl
  obtain ⟨l, xs, rfl, sq, few, g⟩ := g
  cases rv
  have last : ∀ (h' : Heap) (tk : Nat), TxtSet X.prog X.w h' t.heap.objs.size (unlikes xs) → (∀ b o, b < t.heap.objs.size → t.heap.get? b = some o → h'.get? b = some o) →
      wpAny (model X.prog X.w) X.A (spliced (backTo pos (starEach [] X.env))) (fun vs u => wpAny (model X.prog X.w) X.A (call (.builtin "len") (Value.ref t.heap.objs.size :: vs)) (EP X pins σ Q) X.xe u) X.xe { t with heap := h', toks := tk } := by
    rintro h' tk ⟨o, es, ep, tb, ho, ex, dt, _, _, _, fit, cnt⟩ keep
    have J2 : Inv X pins σ H1 { t with heap := h', toks := tk } := J.kept fun b o e => keep b o (Heap.lt_size e) e
    have le := unlikes_len xs
    exact PyProof.Rows.args_nil (call_len_set ho ex dt fit (by rw [cnt]; omega) ⟨.int (unlikes xs).length, H1, J2.tok _, ⟨_, by rw [cnt]⟩, g⟩)
  rcases sq with sq | sq
  · obtain ⟨its, r, pl, _⟩ := J.list sq
    have n1 : its.toArray.size = xs.length := by rw [List.size_toArray, ← r.length, List.length_map]
    exact set_of_list (J.ok.hd hc) pl.isList (by simpa using L2.strsAre_of r) (by rw [n1]; unfold scanBound; omega) last
  · obtain ⟨its, r, pl, _⟩ := J.tuple sq
    have n1 : its.toArray.size = xs.length := by rw [List.size_toArray, ← r.length, List.length_map]
    exact set_of_tuple (J.ok.hd hc) pl (by simpa using L2.strsAre_of r) (by rw [n1]; unfold scanBound; omega) last
theorem sv_lenSet (hc : X.calm = true) (gl : Gl X "len") (ml : X.mg "len" = none) (gs : Gl X "set") (ms : X.mg "set" = none) (ha : PE X a (E_ X W ea)) (na : starEach [a] X.env = (false, eval a X.env) :: starEach [] X.env := by rfl) :
    PE X (.Call (.Name "len" p) [.Call (.Name "set" p2) [a] [] q] [] pos) (E_ X W (vLenSet ea)) := by
  refine PE.imp (pe_lenU hc gl ml gs ms ha na) fun σ H Q h => ?_
  obtain ⟨μ, S, ρ, R, E, p⟩ := h
  refine ⟨μ, S, ρ, R, E, Post.step (P := fun μ H r => Post X.K (cmX X) μ H r Q (atσ W σ)) p (fun _ _ h => h) (fun h => h) fun x S1 μ1 H1 v E1 R1 rv p => ?_⟩
  have ds := deref_seq R1 rv
  split at p
  · rename_i xs e
    obtain ⟨ad, vs, rfl, sq, l, r⟩ := ds.1 xs e
    unfold lenU at p
    split at p
    · rename_i bs hb
      split at p
      · rename_i few
        have e2 := asStr_ok r hb
        subst e2
        exact ⟨ad, bs, rfl, .inl sq, few, p μ1 _ _ E1 R1 (.int _)⟩
      · exact p.elim
    · exact p.elim
  · rename_i xs e
    obtain ⟨ad, vs, rfl, sq, l, r⟩ := ds.2.1 xs e
    unfold lenU at p
    split at p
    · rename_i bs hb
      split at p
      · rename_i few
        have e2 := asStr_ok r hb
        subst e2
        exact ⟨ad, bs, rfl, .inr sq, few, p μ1 _ _ E1 R1 (.int _)⟩
      · exact p.elim
    · exact p.elim
  · exact p.elim
end
section
variable {Q : PV → Store → Prop} {E : PX → Store → Prop} {ρ : Env'} {S : Store} {a : TV}
def LenR (x : PV) (S : Store) (Q : PV → Store → Prop) : Prop := match deref S x with
  | .frl xs => Op (asStr xs) fun bs => bs.length ≤ 4000 ∧ Q (.int (unlikes bs).length) S
  | .tup xs => Op (asStr xs) fun bs => bs.length ≤ 4000 ∧ Q (.int (unlikes bs).length) S
  | _ => False
theorem w_lenSet (h : W (a ρ S) (fun x S => LenR x S Q) E) : W (vLenSet a ρ S) Q E := by
  refine W_bind (W_mono h (fun x S h => ?_) fun _ _ h => h)
  have one : ∀ xs, Op (asStr xs) (fun bs => bs.length ≤ 4000 ∧ Q (.int (unlikes bs).length) S) → W (lenU xs S) Q E := by
    intro xs h
    unfold lenU
    cases hb : asStr xs with
    | none => rw [hb] at h; exact h.elim
    | some bs =>
      rw [hb] at h
      dsimp only
      rw [if_pos h.1]
      exact h.2
  unfold LenR at h
  cases hd : deref S x with
  | frl xs => rw [hd] at h; exact one xs h
  | tup xs => rw [hd] at h; exact one xs h
  | _ => rw [hd] at h; exact h.elim
end
theorem snocInd {α : Type} {P : List α → Prop} (h0 : P []) (h1 : ∀ l x, P l → P (l ++ [x])) (l : List α) : P l := by
  rw [← List.reverse_reverse l]
  induction l.reverse with
  | nil => exact h0
  | cons x r ih => rw [List.reverse_cons]; exact h1 _ _ ih
/-- texts all unlike: as many as there are -/
theorem unlikes_nodup (xs : List Str) : (unlikes xs).length = xs.length ↔ xs.Nodup := by
  have mem : ∀ ys : List Str, ∀ k, k ∈ unlikes ys ↔ k ∈ ys := by
    refine snocInd (by simp [unlikes]) fun ys y ih k => ?_
    rw [unlikes_snoc, mem_oneMore, ih k]; simp
  revert xs
  refine snocInd (by simp [unlikes]) fun ys y ih => ?_
  · have le := unlikes_len ys
    rw [unlikes_snoc, len_oneMore, List.nodup_append]
    by_cases h : y ∈ ys
    · have h2 : y ∈ unlikes ys := (mem ys y).mpr h
      simp only [h2, decide_true, if_true, List.length_append, List.length_singleton]
      constructor
      · intro e; omega
      · intro e; exact absurd rfl (e.2.2 y h y (by simp))
    · have h2 : y ∉ unlikes ys := fun e => h ((mem ys y).mp e)
      simp only [h2, decide_false, Bool.false_eq_true, if_false, List.length_append, List.length_singleton]
      constructor
      · intro e
        exact ⟨ih.mp (by omega), by simp, fun a ha b hb => by rw [List.mem_singleton.mp hb]; rintro rfl; exact h ha⟩
      · intro e
        have := ih.mpr e.1
        omega
end Ev

/-! Fw20: kinds as data, the drawing of kinds. -/
namespace Ev
open PySem PySem.Spec PyProof.Rows L2 SX
local macro_rules | `(tactic| walk_at "w") => `(tactic| first
  | (with_reducible apply s_set; focus (repeat first | exact SetR.zero | apply SetR.succ))
  | (with_reducible apply w_get; focus (repeat first | exact GetR.zero | apply GetR.succ))
  | with_reducible first
  | refine s_seqN ?_ | refine s_seq ?_ | refine q_nx ?_ | refine q_ret ?_ | refine q_brk ?_ | refine q_cnt ?_ | refine q_exc ?_
  | refine s_nil ?_ | refine s_pass ?_ | refine s_brk ?_ | refine s_cnt ?_ | refine s_expr ?_ | refine s_ret ?_ | refine s_retN ?_ | refine s_if ?_ | refine s_unp ?_ | refine s_sub ?_ | refine s_for ?_
  | refine w_c ?_ | (refine w_str ?_ ?_; decide +kernel) | refine w_bin ?_ | refine w_un ?_ | refine w_chn ?_ | refine w_bV ?_ | refine w_bBl ?_ | refine w_bAnd ?_ | refine w_bOr ?_ | refine w_bNot ?_ | refine w_bYes ?_
  | refine w_vAnd ?_ | refine w_vOr ?_ | refine w_vNot ?_ | refine w_vIf ?_ | refine w_nil ?_ | refine w_cons ?_ | refine w_tup ?_ | refine w_disp ?_ | refine w_new ?_ | refine lnew ?_ | refine w_oNone ?_ | refine w_oSome ?_ | refine w_slc ?_ | refine w_lslc ?_ | refine slcT ?_ | refine slcS ?_
  | refine w_call ?_ | refine w_callL ?_ | refine w_lcallL ?_ | refine w_lcallN ?_ | refine w_isi ?_ | refine w_app ?_ | refine w_app0 ?_ | refine w_lval ?_ | refine w_cat ?_ | refine w_eqL ?_ | refine w_lm ?_ | refine w_ext ?_ | refine w_sm ?_ | refine w_sm0 ?_ | refine w_lsm ?_ | refine w_smL ?_ | refine w_dic0 ?_ | refine w_dic1 ?_ | refine w_iV ?_ | refine w_iL ?_ | refine il_none ?_ | refine il_some ?_ | refine w_rng ?_ | refine w_comp ?_ | refine w_rev ?_ | refine w_lenSet ?_ | refine w_extV ?_
  | refine o_addI ?_ | refine o_iadd ?_ | refine o_sub ?_ | refine o_neg ?_ | refine o_ltI ?_ | refine o_le ?_ | refine o_gt ?_ | refine o_ge ?_ | refine o_is ?_ | refine o_isNot ?_ | refine o_lenT ?_ | refine o_lenF ?_ | refine o_lenS ?_ | refine o_intB ?_ | refine o_intI ?_ | refine o_max ?_ | refine o_min ?_ | refine o_tupT ?_ | refine o_eqI ?_ | refine o_eqS ?_ | refine o_eqB ?_
  | refine b_is ?_ | refine i_is ?_ | refine s_is ?_ | refine i_tup ?_ | refine i_str ?_ | refine tr_bl ?_ | refine ty_bl ?_ | refine ty_str ?_ | refine ty_tup ?_ | refine ty_int ?_ | refine k_s ?_ | refine k_i ?_
  | refine Br.tt ?_ | refine Br.ff ?_ | refine Br.nf ?_ | refine Br.nt ?_ | refine f_ret ?_ | refine f_nx ?_ | refine f_body ?_)
abbrev Out := Str × Option Str × Option Str
abbrev Deed := Str × List Out
abbrev State := Str × Bool × List Deed
def eO : Option Str → PV
  | some z => .str z
  | none => .non
def eOut (o : Out) : PV := .tup [.str o.1, eO o.2.1, eO o.2.2]
def eOuts (os : List Out) : PV := .tup (os.map eOut)
def eDeed (d : Deed) : PV := .tup [.str d.1, eOuts d.2]
def eSt (s : State) : PV := .tup [.str s.1, .bl s.2.1, .tup (s.2.2.map eDeed)]
def eK (nm : Str) (sts : List State) : PV := .tup [.str nm, .tup (sts.map eSt)]
/-! data -/
mutual
theorem eqv_refl : ∀ x : PV, x.dat = true → PV.eqv x x = true
  | .non, _ => rfl
  | .bl b, _ => by simp [PV.eqv]
  | .int b, _ => by simp [PV.eqv]
  | .str b, _ => by simp [PV.eqv]
  | .tup xs, h => by simp only [PV.eqv]; exact eqvs_refl xs h
  | .frl xs, h => by simp only [PV.eqv]; exact eqvs_refl xs h
  | .ref _, h => by simp [PV.dat] at h
theorem eqvs_refl : ∀ xs : List PV, PV.dats xs = true → PV.eqvs xs xs = true
  | [], _ => rfl
  | x :: xs, h => by
    simp only [PV.dats, Bool.and_eq_true] at h
    simp only [PV.eqvs, eqv_refl x h.1, eqvs_refl xs h.2, Bool.and_self]
end
theorem deps_le {xs : List PV} {n : Nat} (h : ∀ x ∈ xs, x.dep ≤ n) : PV.deps xs ≤ n := by
  induction xs with
  | nil => exact Nat.zero_le _
  | cons x xs ih =>
    simp only [PV.deps]
    have := h x (by simp)
    have := ih fun y hy => h y (by simp [hy])
    omega
theorem dat_O (o : Option Str) : (eO o).dat = true := by cases o <;> rfl
theorem dep_O (o : Option Str) : (eO o).dep = 0 := by cases o <;> rfl
theorem dat_Out (o : Out) : (eOut o).dat = true := by simp [eOut, PV.dat, PV.dats, dat_O]
theorem dep_Out (o : Out) : (eOut o).dep ≤ 1 := by simp [eOut, PV.dep, PV.deps, dep_O]
theorem dat_Outs (os : List Out) : (eOuts os).dat = true := by
  simp only [eOuts, PV.dat]
  exact dats_iff.mpr fun x hx => by obtain ⟨o, _, rfl⟩ := List.mem_map.mp hx; exact dat_Out o
theorem dep_Outs (os : List Out) : (eOuts os).dep ≤ 2 := by
  simp only [eOuts, PV.dep]
  have := deps_le (xs := os.map eOut) (n := 1) fun x hx => by obtain ⟨o, _, rfl⟩ := List.mem_map.mp hx; exact dep_Out o
  omega
theorem dat_Deed (o : Deed) : (eDeed o).dat = true := by simp [eDeed, PV.dat, PV.dats, dat_Outs]
theorem dep_Deed (o : Deed) : (eDeed o).dep ≤ 3 := by
  have := dep_Outs o.2
  simp [eDeed, PV.dep, PV.deps]; omega
theorem dat_Deeds (os : List Deed) : (PV.tup (os.map eDeed)).dat = true := by
  simp only [PV.dat]
  exact dats_iff.mpr fun x hx => by obtain ⟨o, _, rfl⟩ := List.mem_map.mp hx; exact dat_Deed o
theorem dep_Deeds (os : List Deed) : (PV.tup (os.map eDeed)).dep ≤ 4 := by
  simp only [PV.dep]
  have := deps_le (xs := os.map eDeed) (n := 3) fun x hx => by obtain ⟨o, _, rfl⟩ := List.mem_map.mp hx; exact dep_Deed o
  omega
theorem dat_St (o : State) : (eSt o).dat = true := by
  have := dat_Deeds o.2.2
  simp only [PV.dat] at this
  simp [eSt, PV.dat, PV.dats, this]
theorem dats_Sts (os : List State) : PV.dats (os.map eSt) = true := dats_iff.mpr fun x hx => by obtain ⟨o, _, rfl⟩ := List.mem_map.mp hx; exact dat_St o
theorem dat_K (nm : Str) (sts : List State) : (eK nm sts).dat = true := by simp [eK, PV.dat, PV.dats, dats_Sts]
theorem eqS_self {S0 : Store} {x : PV} (hx : deref S0 x = x) (h : x.dat = true) (hd : x.dep ≤ 190) : eqS S0 x x = some true := by
  rw [eqS_dat (by rw [hx]; exact h) (by rw [hx]; exact h) (by rw [hx]; exact hd), hx, eqv_refl x h]
theorem eqS_O {S0 : Store} (o : Option Str) (z : Str) : eqS S0 (eO o) (.str z) = some (o == some z) := by
  cases o with
  | none => exact eqS_dat rfl rfl (Nat.zero_le _)
  | some y => exact eqS_str _ _ _
noncomputable def bSome : TSt :=   (sSeq (sSet 3 (vApp (fnV 2 4 bTake) (vsCons (vVar 0) (vsCons (vC (.int 12)) vsNil)))) (sSeq (sSet 4 (vBin oIdx (vNew (lDisp (vsCons (vC (.int 1)) (vsCons (vC (.int 5)) (vsCons (vC (.int 7)) (vsCons (vC (.int 11)) vsNil)))))) (vApp (fnV 2 4 bTake) (vsCons (vVar 0) (vsCons (vC (.int 4)) vsNil))))) (sSeq (sRet (vNew (lComp (tgN 5) (iRng (vsCons (vVar 2) vsNil)) bYes (vBin oIdx (vVar 1) (vBin oMod (vBin oAdd (vVar 3) (vBin oMul (vVar 4) (vVar 5))) (vC (.int 12)))) [5]))) sNil)))
noncomputable def bOuts : TSt :=   (sSeq (sSet 6 (vBin oAdd (vC (.int 1)) (vApp (fnV 2 4 bTake) (vsCons (vVar 0) (vsCons (vC (.int 3)) vsNil))))) (sSeq (sIf (bBl (vBin oEq (vApp (fnV 2 4 bTake) (vsCons (vVar 0) (vsCons (vC (.int 8)) vsNil))) (vC (.int 5)))) (sSeq (sSet 6 (vC (.int 6))) sNil) sNil) (sSeq (sSet 6 (vCall fMin (vsCons (vVar 6) (vsCons (vBin oIdx (vVar 5) (vC (.int 0))) vsNil)))) (sSeq (sSub (vVar 5) (vC (.int 0)) (vBin oSub (vBin oIdx (vVar 5) (vC (.int 0))) (vVar 6))) (sSeq (sSet 7 (vBin oEq (vApp (fnV 2 4 bTake) (vsCons (vVar 0) (vsCons (vC (.int 4)) vsNil))) (vC (.int 0)))) (sSeq (sSet 8 (vNew (lDisp vsNil))) (sSeq (sFor (tgN 9) (iV (vApp (fnV 3 6 bSome) (vsCons (vVar 0) (vsCons (vVar 1) (vsCons (vVar 6) vsNil))))) (sSeq (sSet 10 (vBin oIdx (vNew (lCat (lVal (vVar 2)) (lDisp (vsCons (vC .non) vsNil)))) (vApp (fnV 2 4 bTake) (vsCons (vVar 0) (vsCons (vBin oAdd (vCall fLen (vsCons (vVar 2) vsNil)) (vC (.int 1))) vsNil))))) (sSeq (sSet 11 (vC .non)) (sSeq (sIf (bAnd (bBl (vBin oEq (vApp (fnV 2 4 bTake) (vsCons (vVar 0) (vsCons (vC (.int 3)) vsNil))) (vC (.int 0)))) (bBl (vEqL true (lVal (vVar 4)) (lDisp vsNil)))) (sSeq (sSet 11 (vBin oIdx (vVar 4) (vApp (fnV 2 4 bTake) (vsCons (vVar 0) (vsCons (vCall fLen (vsCons (vVar 4) vsNil)) vsNil))))) sNil) sNil) (sSeq (sIf (bV (vVar 7)) (sSeq (sSet 10 (vVar 3)) (sSeq (sSet 11 (vC .non)) sNil)) sNil) (sSeq (sExpr (vLm mAppend (vVar 8) (vsCons (vTup (vsCons (vVar 9) (vsCons (vVar 10) (vsCons (vVar 11) vsNil)))) vsNil))) sNil)))))) (sSeq (sRet (vCall fTup (vsCons (vVar 8) vsNil))) sNil))))))))
noncomputable def bState : TSt :=   (sSeq (sSet 6 (vApp (fnV 2 4 bTake) (vsCons (vVar 0) (vsCons (vC (.int 4)) vsNil)))) (sSeq (sIf (bBl (vBin oEq (vApp (fnV 2 4 bTake) (vsCons (vVar 0) (vsCons (vC (.int 8)) vsNil))) (vC (.int 5)))) (sSeq (sSet 6 (vC (.int 8))) sNil) sNil) (sSeq (sSet 7 (vBin oEq (vApp (fnV 2 4 bTake) (vsCons (vVar 0) (vsCons (vC (.int 2)) vsNil))) (vC (.int 1)))) (sSeq (sSet 8 (vNew (lDisp vsNil))) (sSeq (sFor (tgN 9) (iV (vApp (fnV 3 6 bSome) (vsCons (vVar 0) (vsCons (vVar 1) (vsCons (vVar 6) vsNil))))) (sSeq (sIf (bBl (vBin oGt (vBin oIdx (vVar 5) (vC (.int 0))) (vC (.int 0)))) (sSeq (sSet 10 (vApp (fnV 6 12 bOuts) (vsCons (vVar 0) (vsCons (vVar 1) (vsCons (vVar 2) (vsCons (vVar 3) (vsCons (vVar 4) (vsCons (vVar 5) vsNil)))))))) (sSeq (sExpr (vLm mAppend (vVar 8) (vsCons (vTup (vsCons (vVar 9) (vsCons (vVar 10) vsNil))) vsNil))) sNil)) sNil) sNil)) (sSeq (sRet (vTup (vsCons (vVar 3) (vsCons (vVar 7) (vsCons (vCall fTup (vsCons (vVar 8) vsNil)) vsNil))))) sNil))))))
noncomputable def bKind : TSt :=   (sSeq (sSet 5 (vBin oAdd (vC (.int 1)) (vApp (fnV 2 4 bTake) (vsCons (vVar 0) (vsCons (vC (.int 4)) vsNil))))) (sSeq (sIf (bBl (vBin oEq (vApp (fnV 2 4 bTake) (vsCons (vVar 0) (vsCons (vC (.int 8)) vsNil))) (vC (.int 5)))) (sSeq (sSet 5 (vC (.int 8))) sNil) sNil) (sSeq (sSet 6 (vApp (fnV 3 6 bSome) (vsCons (vVar 0) (vsCons (vVar 1) (vsCons (vVar 5) vsNil))))) (sSeq (sSet 7 (vNew (lDisp (vsCons (vVar 4) vsNil)))) (sSeq (sSet 8 (vNew (lDisp vsNil))) (sSeq (sFor (tgN 9) (iV (vVar 6)) (sSeq (sExpr (vLm mAppend (vVar 8) (vsCons (vApp (fnV 6 11 bState) (vsCons (vVar 0) (vsCons (vVar 1) (vsCons (vVar 6) (vsCons (vVar 9) (vsCons (vVar 3) (vsCons (vVar 7) vsNil))))))) vsNil))) sNil)) (sSeq (sRet (vTup (vsCons (vVar 2) (vsCons (vCall fTup (vsCons (vVar 8) vsNil)) vsNil)))) sNil)))))))
section
variable {n : Nat} {Q : PV → Store → Prop} {E : PX → Store → Prop} {S0 : Store} {nm z d : Str} {sts : List State}
/-- which place of the pool -/
def at12 (a b k : Nat) : Nat := (a + b * k) % 12
theorem at12_inj : ∀ b ∈ [1, 5, 7, 11], ∀ a < 12, ∀ i < 12, ∀ j < 12, at12 a b i = at12 a b j → i = j := by decide +kernel
def pick (ws : List Str) (k : Nat) : PV := match ws[k]? with
  | some z => .str z
  | none => .non
theorem pick_eq {ws : List Str} {k : Nat} (h : k < ws.length) : pick ws k = .str ws[k] := by unfold pick; rw [List.getElem?_eq_getElem h]
theorem pick_w {QL : LL → Store → Prop} {j m a s : Nat} {mi ai si : Int} {w : PV} {U : Store} {ws : List Str} (hm : mi = m) (hai : ai = a) (hsi : si = s) (hn : U[j]? = some (.lst (ws.map .str))) (hl : ws.length = 12) (ha : a < 12) (hs : s < 12) (q : QL (((List.range m).map fun k => (ws[at12 a s k]?).getD default).map .str, none) U) :
    W (compL (tgN 5) bYes (vBin oIdx (vVar 1) (vBin oMod (vBin oAdd (vVar 3) (vBin oMul (vVar 4) (vVar 5))) (vC (.int 12)))) [some w, some (.ref j), some (.int mi), some (.int ai), some (.int si), none] (rangeL 0 m, none) (rangeL 0 m, (none : Option Lk)).1 [] U) QL E := by
  have hat : ∀ k, at12 a s k < 12 := fun k => Nat.mod_lt _ (by omega)
  refine w_pureY (fun x => match x with | .int k => pick ws (at12 a s k.toNat) | _ => .non) trivial (fun x hx => ?_) ?_
  · obtain ⟨k, hk, rfl⟩ := mem_rangeL.mp hx
    generalize hki : (k : Int) = ki
    refine t_n (.succ (.succ (.succ (.succ (.succ .zero))))) ?_
    repeat walk_at "w"
    refine o_mul (.inl (by omega)) ?_
    repeat walk_at "w"
    refine o_mod (by omega) ?_
    have e : (ai + si * ki) % 12 = ((at12 a s k : Nat) : Int) := by
      rw [hai, hsi, ← hki]
      unfold at12; simp
    rw [e]
    have hk2 : at12 a s k < ws.length := by rw [hl]; exact hat k
    refine o_idxR hn (y := .str ws[at12 a s k]) (by rw [atI_map, atI_nat (List.getElem?_eq_getElem hk2)]; rfl) ?_
    refine ⟨?_, rfl⟩
    dsimp only
    rw [← hki, Int.toNat_natCast]
    exact (pick_eq hk2).symm
  · have e : ((rangeL 0 m).map fun x => match x with | .int k => pick ws (at12 a s k.toNat) | _ => .non) = ((List.range m).map fun k => (ws[at12 a s k]?).getD default).map PV.str := by
      unfold rangeL
      rw [List.map_map, List.map_map]
      refine List.map_congr_left fun k _ => ?_
      have hk2 : at12 a s k < ws.length := by rw [hl]; exact hat k
      simp only [Function.comp, Int.zero_add, Int.toNat_natCast, List.getElem?_eq_getElem hk2, Option.getD_some, pick_eq hk2]
    rw [e]; exact q
theorem some_k {i j : Nat} {ws : List Str} {m : Nat} (hw : HasW i S0) (hj : j ≠ i) (hn : S0[j]? = some (.lst (ws.map .str))) (hl : ws.length = 12) (nd : ws.Nodup) (hm : m ≤ 12)
    (q : ∀ (ps : List Str) (U : Store), Fr isWell i S0 U → U.length = S0.length + 1 → U[S0.length]? = some (.lst (ps.map .str)) → ps.length = m → ps.Nodup → (∀ z ∈ ps, z ∈ ws) → Q (.ref S0.length) U) : W (fnV 3 6 bSome [.ref i, .ref j, .int m] S0) Q E := by
  rw [show fnV 3 6 bSome [.ref i, .ref j, .int m] S0 = fin S0 (bSome [some (.ref i), some (.ref j), some (.int m), none, none, none] S0) from fnV_eq 3 6 _ _ _ rfl]
  refine f_body ?_
  unfold bSome
  repeat walk_at "w"
  refine take_w hw (by omega) fun a U1 F1 u1 a0 a1 => ?_
  repeat walk_at "w"
  refine ⟨by have := sizeLine_eq; simp; omega, ?_⟩
  repeat walk_at "w"
  have F2 := F1.kp (Kp.app U1 [PObj.lst [PV.int 1, .int 5, .int 7, .int 11]])
  refine take_w F2.own (by omega) fun b U3 F3 u3 b0 b1 => ?_
  have hb : ∃ s ∈ [1, 5, 7, 11], atI [PV.int 1, .int 5, .int 7, .int 11] b = some (.int ((s : Nat) : Int)) := by
    have : b = 0 ∨ b = 1 ∨ b = 2 ∨ b = 3 := by omega
    rcases this with rfl | rfl | rfl | rfl
    · exact ⟨1, by simp, at0 _ _⟩
    · exact ⟨5, by simp, at1 _ _ _⟩
    · exact ⟨7, by simp, at2 _ _ _ _⟩
    · exact ⟨11, by simp, at3 _ _ _ _ _⟩
  obtain ⟨s, hs, hb⟩ := hb
  have hi := hw.lt
  refine o_idxR (F3.of (get_app _ _ _) (by omega)) hb ?_
  repeat walk_at "w"
  refine rng1 ⟨by omega, by omega⟩ ?_
  rw [Int.toNat_natCast]
  simp only [wipeE, List.set_cons_succ, List.set_cons_zero]
  have F13 := F2.trans F3
  have hat : ∀ k, at12 a.toNat s k < 12 := fun k => Nat.mod_lt _ (by omega)
  have hae : a = ((a.toNat : Nat) : Int) := (Int.toNat_of_nonneg a0).symm
  have hin : ∀ i < 12, ∀ j < 12, at12 a.toNat s i = at12 a.toNat s j → i = j := at12_inj s hs a.toNat (by omega)
  have hs12 : s < 12 := by simp at hs; omega
  refine pick_w rfl hae rfl (F13.of hn hj) hl (by omega) hs12 ?_
  repeat walk_at "w"
  refine g_frNew (F13.kp (Kp.app _ _)) lowW hi F13.le (get_app _ _ _) (lows_strs _ _) fun U FU uU hU => q _ U FU uU hU (by simp) ?_ ?_
  case refine_2 =>
    intro z hz
    obtain ⟨k, _, rfl⟩ := List.mem_map.mp hz
    have hk : at12 a.toNat s k < ws.length := by rw [hl]; exact hat k
    rw [List.getElem?_eq_getElem hk]
    exact List.getElem_mem hk
  refine List.pairwise_map.mpr (List.Pairwise.imp_of_mem (fun {x y} hx hy hxy e => ?_) List.pairwise_lt_range)
  simp only [List.mem_range] at hx hy
  have hx2 : at12 a.toNat s x < ws.length := by rw [hl]; exact hat x
  have hy2 : at12 a.toNat s y < ws.length := by rw [hl]; exact hat y
  rw [List.getElem?_eq_getElem hx2, List.getElem?_eq_getElem hy2] at e
  have e2 := (List.getElem_inj nd).mp e
  have := hin x (by omega) y (by omega) e2
  have hxy : x < y := hxy
  omega
end
/-- how many answers may still be made -/
def isSp (o : PObj) : Prop := ∃ v : Int, 0 ≤ v ∧ o = .lst [.int v]
abbrev LW (i sp : Nat) : List (Nat × (PObj → Prop)) := [(i, isWell), (sp, isSp)]
theorem low2 {i sp : Nat} : ∀ p ∈ LW i sp, ∀ o n, p.2 o → o.low n = true := by
  intro p hp o n h
  simp only [List.mem_cons, List.not_mem_nil, or_false] at hp
  rcases hp with rfl | rfl
  · exact lowW o n h
  · obtain ⟨v, _, rfl⟩ := h; rfl
theorem fr2 {i sp : Nat} {S T U : Store} (hi : i ≠ sp) (a : FrM (LW i sp) S T) (b : Fr isWell i T U) : FrM (LW i sp) S U := by
  refine a.trans (b.frM a.own (by simp) fun p hp e => ?_)
  simp only [List.mem_cons, List.not_mem_nil, or_false] at hp
  rcases hp with rfl | rfl
  · rfl
  · exact absurd e.symm hi
theorem hw2 {i sp : Nat} {S T : Store} (a : FrM (LW i sp) S T) : HasW i T := a.own (i, isWell) (by simp)
theorem hs2 {i sp : Nat} {S T : Store} (a : FrM (LW i sp) S T) : ∃ v : Int, 0 ≤ v ∧ T[sp]? = some (.lst [.int v]) := by
  obtain ⟨o, h, v, h0, rfl⟩ := a.own (sp, isSp) (by simp)
  exact ⟨v, h0, h⟩
theorem ne2 {i sp j : Nat} (h1 : i ≠ j) (h2 : sp ≠ j) : ∀ p ∈ LW i sp, p.1 ≠ j := by
  intro p hp
  simp only [List.mem_cons, List.not_mem_nil, or_false] at hp
  rcases hp with rfl | rfl
  · exact h1
  · exact h2
theorem start2 {i sp : Nat} {S : Store} (h1 : HasW i S) (h2 : ∃ v : Int, 0 ≤ v ∧ S[sp]? = some (.lst [.int v])) : FrM (LW i sp) S S := (Kp.refl S).frM fun p hp => by
  simp only [List.mem_cons, List.not_mem_nil, or_false] at hp
  rcases hp with rfl | rfl
  · exact h1
  · obtain ⟨v, h0, h⟩ := h2; exact ⟨_, h, v, h0, rfl⟩
def outOk (ws st ks : List Str) (o : Out) : Prop := o.1 ∈ ws ∧ (∀ z, o.2.1 = some z → z ∈ st) ∧ ∀ z, o.2.2 = some z → z ∈ ks
def outsOk (ws st ks : List Str) (os : List Out) : Prop := os.length ≤ 6 ∧ (os.map (·.1)).Nodup ∧ ∀ o ∈ os, outOk ws st ks o
noncomputable def outsLook : TSt := (sSeq (sIf (bV (vVar 7)) (sSeq (sSet 10 (vVar 3)) (sSeq (sSet 11 (vC .non)) sNil)) sNil) (sSeq (sExpr (vLm mAppend (vVar 8) (vsCons (vTup (vsCons (vVar 9) (vsCons (vVar 10) (vsCons (vVar 11) vsNil)))) vsNil))) sNil))
noncomputable def outsTurn : TSt := (sSeq (sSet 10 (vBin oIdx (vNew (lCat (lVal (vVar 2)) (lDisp (vsCons (vC .non) vsNil)))) (vApp (fnV 2 4 bTake) (vsCons (vVar 0) (vsCons (vBin oAdd (vCall fLen (vsCons (vVar 2) vsNil)) (vC (.int 1))) vsNil))))) (sSeq (sSet 11 (vC .non)) (sSeq (sIf (bAnd (bBl (vBin oEq (vApp (fnV 2 4 bTake) (vsCons (vVar 0) (vsCons (vC (.int 3)) vsNil))) (vC (.int 0)))) (bBl (vEqL true (lVal (vVar 4)) (lDisp vsNil)))) (sSeq (sSet 11 (vBin oIdx (vVar 4) (vApp (fnV 2 4 bTake) (vsCons (vVar 0) (vsCons (vCall fLen (vsCons (vVar 4) vsNil)) vsNil))))) sNil) sNil) (sSeq (sIf (bV (vVar 7)) (sSeq (sSet 10 (vVar 3)) (sSeq (sSet 11 (vC .non)) sNil)) sNil) (sSeq (sExpr (vLm mAppend (vVar 8) (vsCons (vTup (vsCons (vVar 9) (vsCons (vVar 10) (vsCons (vVar 11) vsNil)))) vsNil))) sNil)))))
noncomputable def outsRest : TSt := (sSeq (sSet 6 (vCall fMin (vsCons (vVar 6) (vsCons (vBin oIdx (vVar 5) (vC (.int 0))) vsNil)))) (sSeq (sSub (vVar 5) (vC (.int 0)) (vBin oSub (vBin oIdx (vVar 5) (vC (.int 0))) (vVar 6))) (sSeq (sSet 7 (vBin oEq (vApp (fnV 2 4 bTake) (vsCons (vVar 0) (vsCons (vC (.int 4)) vsNil))) (vC (.int 0)))) (sSeq (sSet 8 (vNew (lDisp vsNil))) (sSeq (sFor (tgN 9) (iV (vApp (fnV 3 6 bSome) (vsCons (vVar 0) (vsCons (vVar 1) (vsCons (vVar 6) vsNil))))) (sSeq (sSet 10 (vBin oIdx (vNew (lCat (lVal (vVar 2)) (lDisp (vsCons (vC .non) vsNil)))) (vApp (fnV 2 4 bTake) (vsCons (vVar 0) (vsCons (vBin oAdd (vCall fLen (vsCons (vVar 2) vsNil)) (vC (.int 1))) vsNil))))) (sSeq (sSet 11 (vC .non)) (sSeq (sIf (bAnd (bBl (vBin oEq (vApp (fnV 2 4 bTake) (vsCons (vVar 0) (vsCons (vC (.int 3)) vsNil))) (vC (.int 0)))) (bBl (vEqL true (lVal (vVar 4)) (lDisp vsNil)))) (sSeq (sSet 11 (vBin oIdx (vVar 4) (vApp (fnV 2 4 bTake) (vsCons (vVar 0) (vsCons (vCall fLen (vsCons (vVar 4) vsNil)) vsNil))))) sNil) sNil) (sSeq (sIf (bV (vVar 7)) (sSeq (sSet 10 (vVar 3)) (sSeq (sSet 11 (vC .non)) sNil)) sNil) (sSeq (sExpr (vLm mAppend (vVar 8) (vsCons (vTup (vsCons (vVar 9) (vsCons (vVar 10) (vsCons (vVar 11) vsNil)))) vsNil))) sNil)))))) (sSeq (sRet (vCall fTup (vsCons (vVar 8) vsNil))) sNil))))))
section
variable {n : Nat} {Q : PV → Store → Prop} {E : PX → Store → Prop} {S0 : Store} {nm z d : Str} {sts : List State}
theorem some_k2 {i j : Nat} {ws : List Str} {m : Int} (hw : HasW i S0) (hj : j ≠ i) (hn : S0[j]? = some (.lst (ws.map .str))) (hl : ws.length = 12) (nd : ws.Nodup) (hm : 0 ≤ m ∧ m ≤ 12)
    (q : ∀ (ps : List Str) (U : Store), Fr isWell i S0 U → U.length = S0.length + 1 → U[S0.length]? = some (.lst (ps.map .str)) → (ps.length : Int) = m → ps.Nodup → (∀ z ∈ ps, z ∈ ws) → Q (.ref S0.length) U) : W (fnV 3 6 bSome [.ref i, .ref j, .int m] S0) Q E := by
  obtain ⟨k, rfl⟩ := Int.eq_ofNat_of_zero_le hm.1
  exact some_k hw hj hn hl nd (by omega) fun ps U F u hU hk => q ps U F u hU (by rw [hk])
/-- an answer is written down -/
theorem look_s {w0 w1 w2 w4 w5 e10 e11 : PV} {w6 : Option PV} {f : Nat} {h a : Str} {lk : Bool} {o10 o11 : Option Str} {os : List Out} {T : Store} {Q : SR → Prop} (hf : T[f]? = some (.lst (os.map eOut))) (ho : os.length < 1000) (h10 : e10 = eO o10) (h11 : e11 = eO o11)
    (q : ∀ (o : Out) (e10 e11 : PV), (o = (a, o10, o11) ∨ o = (a, some h, none)) → Q (.nx [some w0, some w1, some w2, some (.str h), some w4, some w5, w6, some (.bl lk), some (.ref f), some (.str a), some e10, some e11] (T.set f (.lst ((os ++ [o]).map eOut))))) :
    WS (outsLook [some w0, some w1, some w2, some (.str h), some w4, some w5, w6, some (.bl lk), some (.ref f), some (.str a), some e10, some e11] T) Q := by
  have app : ∀ (p10 p11 : Option Str), ((a, p10, p11) = (a, o10, o11) ∨ (a, p10, p11) = (a, some h, none)) → WS (sExpr (vLm mAppend (vVar 8) (vsCons (vTup (vsCons (vVar 9) (vsCons (vVar 10) (vsCons (vVar 11) vsNil)))) vsNil)) [some w0, some w1, some w2, some (.str h), some w4, some w5, w6, some (.bl lk), some (.ref f), some (.str a), some (eO p10), some (eO p11)] T) Q := by
    intro p10 p11 hp
    repeat walk_at "w"
    refine o_getL hf ?_
    repeat walk_at "w"
    have big := sizeLine_eq
    refine ⟨by simp; omega, ?_⟩
    repeat walk_at "w"
    refine o_getL hf ?_
    refine o_app (by simp; omega) ?_
    have := q (a, p10, p11) (eO p10) (eO p11) hp
    rw [List.map_append] at this
    exact this
  unfold outsLook
  subst h10 h11
  repeat walk_at "w"
  cases lk
  · refine Br.ff (s_nil (q_nx (s_seqN ?_)))
    exact app o10 o11 (.inl rfl)
  · refine Br.tt ?_
    iterate 8 walk_at "w"
    refine s_seqN ?_
    exact app (some h) none (.inr rfl)
theorem turn_s {i j js jk sp f k : Nat} {w6 e10 e11 : Option PV} {h a : Str} {lk : Bool} {os : List Out} {st ks ws : List Str} {T : Store} {Q : SR → Prop} (ha : a ∈ ws) (hh : h ∈ st) (hi : i ≠ sp) (his : i ≠ js ∧ sp ≠ js) (hik : i ≠ jk ∧ sp ≠ jk)
    (hfi : i ≠ f ∧ sp ≠ f) (hki : i ≠ k ∧ sp ≠ k) (hkf : f ≠ k) (hf0 : S0.length ≤ f) (F : FrM (LW i sp) S0 T) (hT : T[f]? = some (.lst (os.map eOut))) (ho : os.length < 1000) (hjs : T[js]? = some (.lst (st.map .str))) (hst : st.length ≤ 1000) (hjk : T[jk]? = some (.lst (ks.map .str))) (hks : ks.length ≤ 1000) {ko : PObj} (hk : T[k]? = some ko)
    (q : ∀ (o : Out) (e10 e11 : PV) (U : Store), o.1 = a → outOk ws st ks o → FrM (LW i sp) S0 U → U[f]? = some (.lst ((os ++ [o]).map eOut)) → U[k]? = some ko → Q (.nx [some (.ref i), some (.ref j), some (.ref js), some (.str h), some (.ref jk), some (.ref sp), w6, some (.bl lk), some (.ref f), some (.str a), some e10, some e11] U)) :
    WS (outsTurn [some (.ref i), some (.ref j), some (.ref js), some (.str h), some (.ref jk), some (.ref sp), w6, some (.bl lk), some (.ref f), some (.str a), e10, e11] T) Q := by
  have big := sizeLine_eq
  have last : ∀ (V : Store) (e10 e11 : PV) (o10 o11 : Option Str), e10 = eO o10 → e11 = eO o11 → (∀ z, o10 = some z → z ∈ st) → (∀ z, o11 = some z → z ∈ ks) → FrM (LW i sp) T V → WS (outsLook [some (.ref i), some (.ref j), some (.ref js), some (.str h), some (.ref jk), some (.ref sp), w6, some (.bl lk), some (.ref f), some (.str a), some e10, some e11] V) Q := by
    intro V e10 e11 o10 o11 h10 h11 k10 k11 G
    refine look_s (G.of hT (ne2 hfi.1 hfi.2)) ho h10 h11 fun o e10 e11 hc => ?_
    have G2 := F.trans G
    have oo : o.1 = a ∧ outOk ws st ks o := by
      rcases hc with rfl | rfl
      · exact ⟨rfl, ha, k10, k11⟩
      · exact ⟨rfl, ha, fun z e => by cases e; exact hh, fun z e => by cases e⟩
    exact q o e10 e11 _ oo.1 oo.2 (G2.setL hf0 (ne2 hfi.1 hfi.2) _) (get_set (G.of hT (ne2 hfi.1 hfi.2))) (by rw [List.getElem?_set_ne hkf]; exact G.of hk (ne2 hki.1 hki.2))
  have FT : FrM (LW i sp) T T := (Kp.refl T).frM F.own
  unfold outsTurn
  repeat walk_at "w"
  refine o_getL hjs ?_
  repeat walk_at "w"
  refine ⟨by simp; omega, hjs, by simp; omega, ?_⟩
  repeat walk_at "w"
  refine o_lenR (get_app_lt hjs) ?_
  repeat walk_at "w"
  have F1 := FT.kp (Kp.app T [PObj.lst (st.map .str ++ [PV.non])])
  refine take_w (hw2 F1) (by simp; omega) fun r V1 G1 v1 r0 r1 => ?_
  have hl : st.map PV.str ++ [PV.non] = (st.map some ++ [none]).map eO := by
    rw [List.map_append, List.map_map]; rfl
  have F2 := fr2 hi F1 G1
  obtain ⟨x, hx, hxm⟩ := atI_ex (xs := st.map some ++ [none]) (k := r) r0 (by simpa using r1)
  have hTi : i < T.length := (hw2 FT).lt
  have hTl : T.length ≠ i := by omega
  have kx : ∀ z, x = some z → z ∈ st := by rintro z rfl; simpa using hxm
  refine o_idxR (y := eO x) (G1.of (get_app _ _ _) hTl) (by show atI (st.map PV.str ++ [PV.non]) r = _; rw [hl, atI_map, hx]; rfl) ?_
  repeat walk_at "w"
  refine take_w (hw2 F2) (by omega) fun r2 V2 G2 v2 r20 r21 => ?_
  have F3 := fr2 hi F2 G2
  repeat walk_at "w"
  by_cases c0 : r2 = 0
  · refine Br.of_tt (by simp [c0]) ?_
    repeat walk_at "w"
    have hjk3 := F3.of hjk (ne2 hik.1 hik.2)
    refine o_getL hjk3 ?_
    repeat walk_at "w"
    refine ⟨Nat.zero_le _, hjk3, Op.of (eq_empty _) ?_⟩
    repeat walk_at "w"
    cases hb : (ks.map PV.str).isEmpty
    · refine Br.of_tt rfl ?_
      repeat walk_at "w"
      refine o_lenR hjk3 ?_
      repeat walk_at "w"
      have kp : 0 < ks.length := by
        cases ks with
        | nil => simp at hb
        | cons a b => simp
      refine take_w (hw2 F3) (by simp; omega) fun r4 V4 G4 v4 r40 r41 => ?_
      have F4 := fr2 hi F3 G4
      obtain ⟨y, hy, hym⟩ := atI_ex (xs := ks) (k := r4) r40 (by simpa using r41)
      refine o_idxR (y := eO (some y)) (G4.of hjk3 hik.1.symm) (by rw [atI_map, hy]; rfl) ?_
      refine q_nx ?_
      exact last V4 _ _ x (some y) rfl rfl kx (fun z e => by cases e; exact hym) F4
    · refine Br.of_ff rfl ?_
      refine s_nil (q_nx ?_)
      exact last V2 _ _ x none rfl rfl kx (fun z e => by cases e) F3
  · refine Br.of_ff (by simp [c0]) ?_
    refine Br.ff (s_nil (q_nx ?_))
    exact last V2 _ _ x none rfl rfl kx (fun z e => by cases e) F3
theorem rest_s {i j js jk sp : Nat} {mi v : Int} {h : Str} {st ks ws : List Str} {T : Store} (hi : i ≠ sp) (hij : i ≠ j ∧ sp ≠ j) (his : i ≠ js ∧ sp ≠ js) (hik : i ≠ jk ∧ sp ≠ jk) (hm : 1 ≤ mi ∧ mi ≤ 6)
    (hh : h ∈ st) (F : FrM (LW i sp) S0 T) (v0 : 0 ≤ v) (hv : T[sp]? = some (.lst [.int v])) (hlt : sp < S0.length) (hit : i < S0.length) (hj0 : S0[j]? = some (.lst (ws.map .str))) (hw : ws.length = 12) (nd : ws.Nodup) (hjs0 : S0[js]? = some (.lst (st.map .str))) (hst : st.length ≤ 1000) (hjk0 : S0[jk]? = some (.lst (ks.map .str))) (hks : ks.length ≤ 1000)
    (q : ∀ (os : List Out) (U : Store), outsOk ws st ks os → (0 < v → os ≠ []) → FrM (LW i sp) S0 U → U.length = S0.length → Q (eOuts os) U) :
    WS (outsRest [some (.ref i), some (.ref j), some (.ref js), some (.str h), some (.ref jk), some (.ref sp), some (.int mi), none, none, none, none, none] T) fun r => W (fin S0 r) Q E := by
  have big := sizeLine_eq
  have hj := F.of hj0 (ne2 hij.1 hij.2)
  have hjs := F.of hjs0 (ne2 his.1 his.2)
  have hjk := F.of hjk0 (ne2 hik.1 hik.2)
  unfold outsRest
  repeat walk_at "w"
  refine o_idxR hv (at0 _ _) ?_
  repeat walk_at "w"
  refine o_idxR hv (at0 _ _) ?_
  have hm2 : 0 ≤ (if v < mi then v else mi) ∧ (if v < mi then v else mi) ≤ v ∧ (if v < mi then v else mi) ≤ 6 ∧ (0 < v → 0 < (if v < mi then v else mi)) := by split <;> omega
  generalize (if v < mi then v else mi) = m2 at *
  repeat walk_at "w"
  refine o_st (n := 0) hv rfl ?_
  have F1 : FrM (LW i sp) S0 (T.set sp (.lst [.int (v - m2)])) := F.setI ⟨isSp, by simp⟩ (lt_of_get hv) fun p hp e => by
    simp only [List.mem_cons, List.not_mem_nil, or_false] at hp
    rcases hp with rfl | rfl
    · exact absurd e hi
    · exact ⟨v - m2, by omega, rfl⟩
  have hset : ∀ {x : Nat} {o : PObj}, sp ≠ x → T[x]? = some o → (T.set sp (.lst [.int (v - m2)]))[x]? = some o := fun hx h => by rw [List.getElem?_set_ne hx]; exact h
  have hj1 := hset hij.2 hj
  have hjs1 := hset his.2 hjs
  have hjk1 := hset hik.2 hjk
  show WS _ _
  have hse : ([PV.int v].set 0 (PV.int (v - m2))) = [PV.int (v - m2)] := rfl
  rw [hse]
  generalize T.set sp (.lst [.int (v - m2)]) = T1 at *
  repeat walk_at "w"
  refine take_w (hw2 F1) (by omega) fun r V1 G1 v1 r0 r1 => ?_
  have F2 := fr2 hi F1 G1
  repeat walk_at "w"
  refine ⟨Nat.zero_le _, ?_⟩
  repeat walk_at "w"
  have F3 := F2.kp (Kp.app V1 [PObj.lst []])
  have hV1 : S0.length ≤ V1.length := F2.le
  have hj3 : (V1 ++ [PObj.lst []])[j]? = some (.lst (ws.map .str)) := get_app_lt (G1.of hj1 hij.1.symm)
  have hjs3 : (V1 ++ [PObj.lst []])[js]? = some (.lst (st.map .str)) := get_app_lt (G1.of hjs1 his.1.symm)
  have hjk3 : (V1 ++ [PObj.lst []])[jk]? = some (.lst (ks.map .str)) := get_app_lt (G1.of hjk1 hik.1.symm)
  refine some_k2 (hw2 F3) hij.1.symm hj3 hw nd ⟨hm2.1, by omega⟩ fun ps V2 G2 v2 hps hpl pnd pin => ?_
  have F4 := fr2 hi F3 G2
  have fk : (V1 ++ [PObj.lst []]).length = V1.length + 1 := by simp
  rw [fk] at hps ⊢
  have hf4 : V2[V1.length]? = some (.lst (([] : List Out).map eOut)) := G2.of (get_app _ _ _) (by omega)
  have hjs4 := G2.of hjs3 his.1.symm
  have hjk4 := G2.of hjk3 hik.1.symm
  refine i_ref hps ?_
  refine s_loop (fun rest ρ V => FrM (LW i sp) S0 V ∧ V[V1.length + 1]? = some (.lst (ps.map .str)) ∧ ∃ (os : List Out) (zs : List Str) (e9 e10 e11 : Option PV), rest = zs.map .str ∧ os.map (·.1) ++ zs = ps ∧ (∀ o ∈ os, outOk ws st ks o) ∧ V[V1.length]? = some (.lst (os.map eOut)) ∧
    ρ = [some (.ref i), some (.ref j), some (.ref js), some (.str h), some (.ref jk), some (.ref sp), some (.int m2), some (.bl (r == 0)), some (.ref V1.length), e9, e10, e11])
    ⟨F4, hps, [], ps, _, _, _, rfl, rfl, fun o ho => absurd ho List.not_mem_nil, hf4, rfl⟩ (fun x rest ρ V H => ?_) (fun ρ V H => ?_)
  · obtain ⟨FV, hk, os, zs, e9, e10, e11, hr, hzs, hok, hf, rfl⟩ := H
    refine ⟨hk, ?_⟩
    cases zs with
    | nil => cases hr
    | cons z zs =>
      simp only [List.map_cons, List.cons.injEq] at hr
      obtain ⟨rfl, rfl⟩ := hr
      have hlen : os.length + (zs.length + 1) = ps.length := by rw [← hzs]; simp
      refine t_n (.succ (.succ (.succ (.succ (.succ (.succ (.succ (.succ (.succ .zero))))))))) ?_
      refine turn_s (pin z (by rw [← hzs]; simp)) hh hi his hik ⟨by omega, by omega⟩ ⟨by omega, by omega⟩ (by omega) hV1 FV hf (by omega) (FV.of hjs0 (ne2 his.1 his.2)) hst (FV.of hjk0 (ne2 hik.1 hik.2)) hks hk fun o e10 e11 U oa oo FU hU hUk => ?_
      refine ⟨FU, hUk, os ++ [o], zs, _, _, _, rfl, by rw [← hzs]; simp [oa], fun u hu => ?_, hU, rfl⟩
      rcases List.mem_append.mp hu with hu | hu
      · exact hok u hu
      · rw [List.mem_singleton.mp hu]; exact oo
  · obtain ⟨FV, hk, os, zs, e9, e10, e11, hr, hzs, hok, hf, rfl⟩ := H
    refine ⟨hk, ?_⟩
    cases zs with
    | cons z zs => cases hr
    | nil =>
    rw [List.append_nil] at hzs
    have hlen : os.length = ps.length := by rw [← hzs]; simp
    repeat walk_at "w"
    refine o_tupR hf ?_
    repeat walk_at "w"
    refine g_frM FV low2 (fun p hp => ?_) (low_dat _ _ (dat_Outs os)) fun U FU uU => q os U ⟨by omega, by rw [hzs]; exact pnd, hok⟩ (fun v1 e => by subst e; have := hm2.2.2.2 v1; simp at hlen; omega) FU uU
    simp only [List.mem_cons, List.not_mem_nil, or_false] at hp
    rcases hp with rfl | rfl
    · exact hit
    · exact hlt
theorem outs_k {i j js jk sp : Nat} {v : Int} {h : Str} {st ks ws : List Str} (hi : i ≠ sp) (hij : i ≠ j ∧ sp ≠ j) (his : i ≠ js ∧ sp ≠ js) (hik : i ≠ jk ∧ sp ≠ jk)
    (hh : h ∈ st) (hw : HasW i S0) (v0 : 0 ≤ v) (hv : S0[sp]? = some (.lst [.int v])) (hj0 : S0[j]? = some (.lst (ws.map .str))) (hwl : ws.length = 12) (nd : ws.Nodup) (hjs0 : S0[js]? = some (.lst (st.map .str))) (hst : st.length ≤ 1000) (hjk0 : S0[jk]? = some (.lst (ks.map .str))) (hks : ks.length ≤ 1000)
    (q : ∀ (os : List Out) (U : Store), outsOk ws st ks os → (0 < v → os ≠ []) → FrM (LW i sp) S0 U → U.length = S0.length → Q (eOuts os) U) :
    W (fnV 6 12 bOuts [.ref i, .ref j, .ref js, .str h, .ref jk, .ref sp] S0) Q E := by
  rw [show fnV 6 12 bOuts [.ref i, .ref j, .ref js, .str h, .ref jk, .ref sp] S0 = fin S0 (bOuts [some (.ref i), some (.ref j), some (.ref js), some (.str h), some (.ref jk), some (.ref sp), none, none, none, none, none, none] S0) from fnV_eq 6 12 _ _ _ rfl]
  refine f_body ?_
  unfold bOuts
  have F0 := start2 hw ⟨v, v0, hv⟩
  have hlt : sp < S0.length := lt_of_get hv
  repeat walk_at "w"
  refine take_w hw (by omega) fun r1 T1 F1 u1 r10 r11 => ?_
  repeat walk_at "w"
  refine take_w F1.own (by omega) fun r2 T2 F2 u2 r20 r21 => ?_
  have G2 := fr2 hi (fr2 hi F0 F1) F2
  repeat walk_at "w"
  by_cases c0 : r2 = 5
  · refine Br.of_tt (by simp [c0]) ?_
    iterate 3 walk_at "w"
    refine q_nx ?_
    exact rest_s hi hij his hik ⟨by omega, by omega⟩ hh G2 v0 ((F1.trans F2).of hv hi.symm) hlt hw.lt hj0 hwl nd hjs0 hst hjk0 hks q
  · refine Br.of_ff (by simp [c0]) ?_
    refine s_nil (q_nx ?_)
    exact rest_s hi hij his hik ⟨by omega, by omega⟩ hh G2 v0 ((F1.trans F2).of hv hi.symm) hlt hw.lt hj0 hwl nd hjs0 hst hjk0 hks q
end
theorem lt2 {i sp : Nat} {S : Store} (h1 : i < S.length) (h2 : sp < S.length) : ∀ p ∈ LW i sp, p.1 < S.length := by
  intro p hp
  simp only [List.mem_cons, List.not_mem_nil, or_false] at hp
  rcases hp with rfl | rfl
  · exact h1
  · exact h2
noncomputable def stRest : TSt := (sSeq (sSet 7 (vBin oEq (vApp (fnV 2 4 bTake) (vsCons (vVar 0) (vsCons (vC (.int 2)) vsNil))) (vC (.int 1)))) (sSeq (sSet 8 (vNew (lDisp vsNil))) (sSeq (sFor (tgN 9) (iV (vApp (fnV 3 6 bSome) (vsCons (vVar 0) (vsCons (vVar 1) (vsCons (vVar 6) vsNil))))) (sSeq (sIf (bBl (vBin oGt (vBin oIdx (vVar 5) (vC (.int 0))) (vC (.int 0)))) (sSeq (sSet 10 (vApp (fnV 6 12 bOuts) (vsCons (vVar 0) (vsCons (vVar 1) (vsCons (vVar 2) (vsCons (vVar 3) (vsCons (vVar 4) (vsCons (vVar 5) vsNil)))))))) (sSeq (sExpr (vLm mAppend (vVar 8) (vsCons (vTup (vsCons (vVar 9) (vsCons (vVar 10) vsNil))) vsNil))) sNil)) sNil) sNil)) (sSeq (sRet (vTup (vsCons (vVar 3) (vsCons (vVar 7) (vsCons (vCall fTup (vsCons (vVar 8) vsNil)) vsNil))))) sNil))))
noncomputable def kRest : TSt := (sSeq (sSet 6 (vApp (fnV 3 6 bSome) (vsCons (vVar 0) (vsCons (vVar 1) (vsCons (vVar 5) vsNil))))) (sSeq (sSet 7 (vNew (lDisp (vsCons (vVar 4) vsNil)))) (sSeq (sSet 8 (vNew (lDisp vsNil))) (sSeq (sFor (tgN 9) (iV (vVar 6)) (sSeq (sExpr (vLm mAppend (vVar 8) (vsCons (vApp (fnV 6 11 bState) (vsCons (vVar 0) (vsCons (vVar 1) (vsCons (vVar 6) (vsCons (vVar 9) (vsCons (vVar 3) (vsCons (vVar 7) vsNil))))))) vsNil))) sNil)) (sSeq (sRet (vTup (vsCons (vVar 2) (vsCons (vCall fTup (vsCons (vVar 8) vsNil)) vsNil)))) sNil)))))
def deedOk (ws st ks : List Str) (d : Deed) : Prop := d.1 ∈ ws ∧ d.2 ≠ [] ∧ outsOk ws st ks d.2
def stateOk (ws st ks : List Str) (s : State) : Prop := s.2.2.length ≤ 8 ∧ (s.2.2.map (·.1)).Nodup ∧ ∀ d ∈ s.2.2, deedOk ws st ks d
section
variable {n : Nat} {Q : PV → Store → Prop} {E : PX → Store → Prop} {S0 : Store} {nm z d : Str} {sts : List State}
theorem strest_s {i j js jk sp : Nat} {mi : Int} {h : Str} {st ks ws : List Str} {T : Store} (hh : h ∈ st) (hi : i ≠ sp) (hij : i ≠ j ∧ sp ≠ j) (his : i ≠ js ∧ sp ≠ js) (hik : i ≠ jk ∧ sp ≠ jk) (hm : 0 ≤ mi ∧ mi ≤ 8)
    (F : FrM (LW i sp) S0 T) (hlt : sp < S0.length) (hit : i < S0.length) (hj0 : S0[j]? = some (.lst (ws.map .str))) (hw : ws.length = 12) (nd : ws.Nodup) (hjs0 : S0[js]? = some (.lst (st.map .str))) (hst : st.length ≤ 1000) (hjk0 : S0[jk]? = some (.lst (ks.map .str))) (hks : ks.length ≤ 1000)
    (q : ∀ (b : Bool) (ds : List Deed) (U : Store), stateOk ws st ks (h, b, ds) → FrM (LW i sp) S0 U → U.length = S0.length → Q (eSt (h, b, ds)) U) :
    WS (stRest [some (.ref i), some (.ref j), some (.ref js), some (.str h), some (.ref jk), some (.ref sp), some (.int mi), none, none, none, none] T) fun r => W (fin S0 r) Q E := by
  have big := sizeLine_eq
  have hj := F.of hj0 (ne2 hij.1 hij.2)
  unfold stRest
  repeat walk_at "w"
  refine take_w (hw2 F) (by omega) fun r V1 G1 v1 r0 r1 => ?_
  have F2 := fr2 hi F G1
  repeat walk_at "w"
  refine ⟨Nat.zero_le _, ?_⟩
  repeat walk_at "w"
  have F3 := F2.kp (Kp.app V1 [PObj.lst []])
  have hV1 : S0.length ≤ V1.length := F2.le
  have hj3 : (V1 ++ [PObj.lst []])[j]? = some (.lst (ws.map .str)) := get_app_lt (G1.of hj hij.1.symm)
  refine some_k2 (hw2 F3) hij.1.symm hj3 hw nd ⟨hm.1, by omega⟩ fun ps V2 G2 v2 hps hpl pnd pin => ?_
  have F4 := fr2 hi F3 G2
  have fk : (V1 ++ [PObj.lst []]).length = V1.length + 1 := by simp
  rw [fk] at hps ⊢
  have hf4 : V2[V1.length]? = some (.lst (([] : List Deed).map eDeed)) := G2.of (get_app _ _ _) (by omega)
  refine i_ref hps ?_
  refine s_loop (fun rest ρ V => FrM (LW i sp) S0 V ∧ V[V1.length + 1]? = some (.lst (ps.map .str)) ∧ ∃ (ds : List Deed) (zs : List Str) (e9 e10 : Option PV), rest = zs.map .str ∧ ds.length + zs.length ≤ 8 ∧ (ds.map (·.1) ++ zs).Nodup ∧ (∀ z ∈ zs, z ∈ ws) ∧ (∀ d ∈ ds, deedOk ws st ks d) ∧ V[V1.length]? = some (.lst (ds.map eDeed)) ∧
    ρ = [some (.ref i), some (.ref j), some (.ref js), some (.str h), some (.ref jk), some (.ref sp), some (.int mi), some (.bl (r == 1)), some (.ref V1.length), e9, e10])
    ⟨F4, hps, [], ps, _, _, rfl, by simp; omega, by simpa using pnd, pin, fun d hd => absurd hd List.not_mem_nil, hf4, rfl⟩ (fun x rest ρ V H => ?_) (fun ρ V H => ?_)
  · obtain ⟨FV, hk, ds, zs, e9, e10, hr, hlen, hnd, hzw, hdk, hf, rfl⟩ := H
    refine ⟨hk, ?_⟩
    cases zs with
    | nil => cases hr
    | cons z zs =>
      simp only [List.map_cons, List.cons.injEq] at hr
      obtain ⟨rfl, rfl⟩ := hr
      simp only [List.length_cons] at hlen
      refine t_n (.succ (.succ (.succ (.succ (.succ (.succ (.succ (.succ (.succ .zero))))))))) ?_
      obtain ⟨v, v0, hv⟩ := hs2 FV
      repeat walk_at "w"
      refine o_idxR hv (at0 _ _) ?_
      repeat walk_at "w"
      refine Br.dec (fun c0 => ?_) (fun c0 => ?_)
      · repeat walk_at "w"
        refine outs_k hi hij his hik hh (hw2 FV) v0 hv (FV.of hj0 (ne2 hij.1 hij.2)) hw nd (FV.of hjs0 (ne2 his.1 his.2)) hst (FV.of hjk0 (ne2 hik.1 hik.2)) hks fun os U oo on FU uU => ?_
        have hfU := FU.of hf (ne2 (by omega) (by omega))
        have hkU := FU.of hk (ne2 (by omega) (by omega))
        repeat walk_at "w"
        refine o_getL hfU ?_
        repeat walk_at "w"
        refine ⟨by simp; omega, ?_⟩
        repeat walk_at "w"
        refine o_getL hfU ?_
        refine o_app (by simp; omega) ?_
        refine ⟨(FV.trans FU).setL hV1 (ne2 (by omega) (by omega)) _, by rw [List.getElem?_set_ne (by show V1.length ≠ _; omega)]; exact hkU, ds ++ [(z, os)], zs, _, _, rfl, by simp; omega, by simpa using hnd, fun y hy => hzw y (by simp [hy]), fun u hu => ?_, by rw [List.map_append]; exact get_set hfU, rfl⟩
        rcases List.mem_append.mp hu with hu | hu
        · exact hdk u hu
        · rw [List.mem_singleton.mp hu]; exact ⟨hzw z (by simp), on c0, oo⟩
      · repeat walk_at "w"
        refine ⟨FV, hk, ds, zs, _, _, rfl, by omega, ?_, fun y hy => hzw y (by simp [hy]), hdk, hf, rfl⟩
        exact hnd.sublist ((List.append_sublist_append_left _).mpr (List.sublist_cons_self _ _))
  · obtain ⟨FV, hk, ds, zs, e9, e10, hr, hlen, hnd, hzw, hdk, hf, rfl⟩ := H
    refine ⟨hk, ?_⟩
    cases zs with
    | cons z zs => cases hr
    | nil =>
      repeat walk_at "w"
      refine o_tupR hf ?_
      repeat walk_at "w"
      refine ⟨by simp; omega, ?_⟩
      repeat walk_at "w"
      refine g_frM FV low2 (lt2 hit hlt) (low_dat _ _ (dat_St (h, r == 1, ds))) fun U FU uU => q _ ds U ⟨by simp at hlen; omega, by simpa using hnd, hdk⟩ FU uU
theorem state_w {i j js jk sp : Nat} {h : Str} {st ks ws : List Str} (hh : h ∈ st) (hi : i ≠ sp) (hij : i ≠ j ∧ sp ≠ j) (his : i ≠ js ∧ sp ≠ js) (hik : i ≠ jk ∧ sp ≠ jk)
    (hw : HasW i S0) (hs : ∃ v : Int, 0 ≤ v ∧ S0[sp]? = some (.lst [.int v])) (hj0 : S0[j]? = some (.lst (ws.map .str))) (hwl : ws.length = 12) (nd : ws.Nodup) (hjs0 : S0[js]? = some (.lst (st.map .str))) (hst : st.length ≤ 1000) (hjk0 : S0[jk]? = some (.lst (ks.map .str))) (hks : ks.length ≤ 1000)
    (q : ∀ (b : Bool) (ds : List Deed) (U : Store), stateOk ws st ks (h, b, ds) → FrM (LW i sp) S0 U → U.length = S0.length → Q (eSt (h, b, ds)) U) :
    W (fnV 6 11 bState [.ref i, .ref j, .ref js, .str h, .ref jk, .ref sp] S0) Q E := by
  rw [show fnV 6 11 bState [.ref i, .ref j, .ref js, .str h, .ref jk, .ref sp] S0 = fin S0 (bState [some (.ref i), some (.ref j), some (.ref js), some (.str h), some (.ref jk), some (.ref sp), none, none, none, none, none] S0) from fnV_eq 6 11 _ _ _ rfl]
  refine f_body ?_
  unfold bState
  have F0 := start2 hw hs
  have hlt : sp < S0.length := by obtain ⟨v, _, h⟩ := hs; exact lt_of_get h
  repeat walk_at "w"
  refine take_w hw (by omega) fun r1 T1 F1 u1 r10 r11 => ?_
  repeat walk_at "w"
  refine take_w F1.own (by omega) fun r2 T2 F2 u2 r20 r21 => ?_
  have G2 := fr2 hi (fr2 hi F0 F1) F2
  repeat walk_at "w"
  by_cases c0 : r2 = 5
  · refine Br.of_tt (by simp [c0]) ?_
    iterate 3 walk_at "w"
    refine q_nx ?_
    exact strest_s hh hi hij his hik ⟨by omega, by omega⟩ G2 hlt hw.lt hj0 hwl nd hjs0 hst hjk0 hks q
  · refine Br.of_ff (by simp [c0]) ?_
    refine s_nil (q_nx ?_)
    exact strest_s hh hi hij his hik ⟨by omega, by omega⟩ G2 hlt hw.lt hj0 hwl nd hjs0 hst hjk0 hks q
theorem fr_of2 {i sp : Nat} {T V : Store} (F : Fr isWell i S0 T) (G : FrM (LW i sp) T V) (h : S0.length ≤ sp) : Fr isWell i S0 V :=
  ⟨Nat.le_trans F.le G.le, fun j hj hi => (G.get j (Nat.lt_of_lt_of_le hj F.le) (ne2 (Ne.symm hi) (by omega))).trans (F.get j hj hi), hw2 G⟩
theorem krest_s {i j jk : Nat} {mi mo : Int} {nm : Str} {ks ws : List Str} {T : Store} (hmo : 0 ≤ mo) (hij : j ≠ i) (hik : jk ≠ i) (hm : 1 ≤ mi ∧ mi ≤ 8)
    (F : Fr isWell i S0 T) (hit : i < S0.length) (hj0 : S0[j]? = some (.lst (ws.map .str))) (hw : ws.length = 12) (nd : ws.Nodup) (hjk0 : S0[jk]? = some (.lst (ks.map .str))) (hks : ks.length ≤ 1000)
    (q : ∀ (sts : List State) (U : Store), sts ≠ [] → (sts.map (·.1)).Nodup → (∀ s ∈ sts, s.1 ∈ ws ∧ stateOk ws (sts.map (·.1)) ks s) → sts.length ≤ 8 → Fr isWell i S0 U → U.length = S0.length → Q (eK nm sts) U) :
    WS (kRest [some (.ref i), some (.ref j), some (.str nm), some (.ref jk), some (.int mo), some (.int mi), none, none, none, none] T) fun r => W (fin S0 r) Q E := by
  have big := sizeLine_eq
  have hj := F.of hj0 hij
  have hTl := F.le
  unfold kRest
  repeat walk_at "w"
  refine some_k2 F.own hij hj hw nd ⟨by omega, by omega⟩ fun ps V1 G1 v1 hps hpl pnd pin => ?_
  have F1 := F.trans G1
  repeat walk_at "w"
  refine ⟨by simp; omega, ?_⟩
  repeat walk_at "w"
  refine ⟨Nat.zero_le _, ?_⟩
  repeat walk_at "w"
  have l2 : (V1 ++ [PObj.lst [PV.int mo]]).length = V1.length + 1 := by simp
  rw [l2]
  have F2 := F1.kp ((Kp.app V1 [PObj.lst [PV.int mo]]).trans (Kp.app _ [PObj.lst []]))
  have hs3 : (V1 ++ [PObj.lst [PV.int mo]] ++ [PObj.lst []])[V1.length]? = some (.lst [.int mo]) := get_app_lt (get_app _ _ _)
  have hf3 : (V1 ++ [PObj.lst [PV.int mo]] ++ [PObj.lst []])[V1.length + 1]? = some (.lst (([] : List State).map eSt)) := by rw [← l2]; exact get_app _ _ _
  have hps3 : (V1 ++ [PObj.lst [PV.int mo]] ++ [PObj.lst []])[T.length]? = some (.lst (ps.map .str)) := get_app_lt (get_app_lt hps)
  have hj3 := F2.of hj0 hij
  have hjk3 := F2.of hjk0 hik
  have hjl := lt_of_get hj0
  have hjkl := lt_of_get hjk0
  refine i_ref hps3 ?_
  have M0 : FrM (LW i V1.length) (V1 ++ [PObj.lst [PV.int mo]] ++ [PObj.lst []]) (V1 ++ [PObj.lst [PV.int mo]] ++ [PObj.lst []]) := start2 F2.own ⟨mo, hmo, hs3⟩
  generalize hV3 : V1 ++ [PObj.lst [PV.int mo]] ++ [PObj.lst []] = V3 at *
  have l3 : V3.length = V1.length + 2 := by rw [← hV3]; simp
  refine s_loop (fun rest ρ V => FrM (LW i V1.length) V1 V ∧ V[T.length]? = some (.lst (ps.map .str)) ∧ V[j]? = some (.lst (ws.map .str)) ∧ V[jk]? = some (.lst (ks.map .str)) ∧ ∃ (ss : List State) (zs : List Str) (e9 : Option PV), rest = zs.map .str ∧ ss.map (·.1) ++ zs = ps ∧ (∀ s ∈ ss, stateOk ws ps ks s) ∧ V[V1.length + 1]? = some (.lst (ss.map eSt)) ∧
    ρ = [some (.ref i), some (.ref j), some (.str nm), some (.ref jk), some (.int mo), some (.int mi), some (.ref T.length), some (.ref V1.length), some (.ref (V1.length + 1)), e9])
    ⟨⟨by omega, fun x hx _ => by rw [← hV3, List.getElem?_append_left (by simp; omega), List.getElem?_append_left hx], M0.own⟩, hps3, hj3, hjk3, [], ps, _, rfl, rfl, fun s hs => absurd hs List.not_mem_nil, hf3, rfl⟩ (fun x rest ρ V H => ?_) (fun ρ V H => ?_)
  · obtain ⟨FV, hk, hjV, hjkV, ss, zs, e9, hr, hz, hnd, hf, rfl⟩ := H
    refine ⟨hk, ?_⟩
    cases zs with
    | nil => cases hr
    | cons z zs =>
      simp only [List.map_cons, List.cons.injEq] at hr
      obtain ⟨rfl, rfl⟩ := hr
      have hlen : ss.length + (zs.length + 1) = ps.length := by rw [← hz]; simp
      refine t_n (.succ (.succ (.succ (.succ (.succ (.succ (.succ (.succ (.succ .zero))))))))) ?_
      repeat walk_at "w"
      refine o_getL hf ?_
      repeat walk_at "w"
      have d1 : i ≠ V1.length := by omega
      refine state_w (by rw [← hz]; simp) d1 ⟨hij.symm, by omega⟩ ⟨by omega, by omega⟩ ⟨hik.symm, by omega⟩ (hw2 FV) (hs2 FV) hjV hw nd hk (by omega) hjkV hks fun b ds U dnd FU uU => ?_
      have hfU := FU.of hf (ne2 (by omega) (by omega))
      repeat walk_at "w"
      refine o_getL hfU ?_
      refine o_app (by simp; omega) ?_
      have keep : ∀ {x : Nat} {o : PObj}, V[x]? = some o → i ≠ x → V1.length ≠ x → V1.length + 1 ≠ x → (U.set (PV.ref (V1.length + 1)).num (PObj.lst (ss.map eSt ++ [eSt (z, b, ds)])))[x]? = some o := fun h h1 h2 h3 => by
        show (U.set (V1.length + 1) _)[_]? = _
        rw [List.getElem?_set_ne h3]; exact FU.of h (ne2 h1 h2)
      refine ⟨(FV.trans FU).setL (Nat.le_succ _) (ne2 (by omega) (by omega)) _, keep hk (by omega) (by omega) (by omega), keep hjV (Ne.symm hij) (by omega) (by omega), keep hjkV (Ne.symm hik) (by omega) (by omega), ss ++ [(z, b, ds)], zs, _, rfl, by simpa using hz, fun s hs => ?_, by rw [List.map_append]; exact get_set hfU, rfl⟩
      rcases List.mem_append.mp hs with hs | hs
      · exact hnd s hs
      · rw [List.mem_singleton.mp hs]; exact dnd
  · obtain ⟨FV, hk, hjV, hjkV, ss, zs, e9, hr, hz, hnd, hf, rfl⟩ := H
    refine ⟨hk, ?_⟩
    cases zs with
    | cons z zs => cases hr
    | nil =>
      rw [List.append_nil] at hz
      have hlen : ss.length = ps.length := by rw [← hz]; simp
      repeat walk_at "w"
      refine o_tupR hf ?_
      repeat walk_at "w"
      refine ⟨by simp; omega, ?_⟩
      repeat walk_at "w"
      refine g_fr (fr_of2 F1 FV F1.le) lowW hit (low_dat _ _ (dat_K nm ss)) fun U FU uU => q ss U (fun e => ?_) (by rw [hz]; exact pnd) (fun s hs => ⟨pin _ (by rw [← hz]; exact List.mem_map.mpr ⟨s, hs, rfl⟩), by rw [hz]; exact hnd s hs⟩) (by omega) FU uU
      subst e
      simp at hlen
      omega
theorem kind_w {i j jk : Nat} {mo : Int} {nm : Str} {ks ws : List Str} (hmo : 0 ≤ mo) (hij : j ≠ i) (hik : jk ≠ i) (hw : HasW i S0) (hj0 : S0[j]? = some (.lst (ws.map .str))) (hwl : ws.length = 12) (nd : ws.Nodup) (hjk0 : S0[jk]? = some (.lst (ks.map .str))) (hks : ks.length ≤ 1000)
    (q : ∀ (sts : List State) (U : Store), sts ≠ [] → (sts.map (·.1)).Nodup → (∀ s ∈ sts, s.1 ∈ ws ∧ stateOk ws (sts.map (·.1)) ks s) → sts.length ≤ 8 → Fr isWell i S0 U → U.length = S0.length → Q (eK nm sts) U) :
    W (fnV 5 10 bKind [.ref i, .ref j, .str nm, .ref jk, .int mo] S0) Q E := by
  rw [show fnV 5 10 bKind [.ref i, .ref j, .str nm, .ref jk, .int mo] S0 = fin S0 (bKind [some (.ref i), some (.ref j), some (.str nm), some (.ref jk), some (.int mo), none, none, none, none, none] S0) from fnV_eq 5 10 _ _ _ rfl]
  refine f_body ?_
  unfold bKind
  repeat walk_at "w"
  refine take_w hw (by omega) fun r1 T1 F1 u1 r10 r11 => ?_
  repeat walk_at "w"
  refine take_w F1.own (by omega) fun r2 T2 F2 u2 r20 r21 => ?_
  have G2 := F1.trans F2
  repeat walk_at "w"
  by_cases c0 : r2 = 5
  · refine Br.of_tt (by simp [c0]) ?_
    iterate 3 walk_at "w"
    refine q_nx ?_
    exact krest_s hmo hij hik ⟨by omega, by omega⟩ G2 hw.lt hj0 hwl nd hjk0 hks q
  · refine Br.of_ff (by simp [c0]) ?_
    refine s_nil (q_nx ?_)
    exact krest_s hmo hij hik ⟨by omega, by omega⟩ G2 hw.lt hj0 hwl nd hjk0 hks q
end
end Ev

/-! Fw21: what a name is. -/
namespace Ev
open PySem PySem.Spec PyProof.Rows L2 SX
local macro_rules | `(tactic| walk_at "w") => `(tactic| first
  | (with_reducible apply s_set; focus (repeat first | exact SetR.zero | apply SetR.succ))
  | (with_reducible apply w_get; focus (repeat first | exact GetR.zero | apply GetR.succ))
  | with_reducible first
  | refine s_seqN ?_ | refine s_seq ?_ | refine q_nx ?_ | refine q_ret ?_ | refine q_brk ?_ | refine q_cnt ?_ | refine q_exc ?_
  | refine s_nil ?_ | refine s_pass ?_ | refine s_brk ?_ | refine s_cnt ?_ | refine s_expr ?_ | refine s_ret ?_ | refine s_retN ?_ | refine s_if ?_ | refine s_unp ?_ | refine s_sub ?_ | refine s_for ?_
  | refine w_c ?_ | (refine w_str ?_ ?_; decide +kernel) | refine w_bin ?_ | refine w_un ?_ | refine w_chn ?_ | refine w_bV ?_ | refine w_bBl ?_ | refine w_bAnd ?_ | refine w_bOr ?_ | refine w_bNot ?_ | refine w_bYes ?_
  | refine w_vAnd ?_ | refine w_vOr ?_ | refine w_vNot ?_ | refine w_vIf ?_ | refine w_nil ?_ | refine w_cons ?_ | refine w_tup ?_ | refine w_disp ?_ | refine w_new ?_ | refine lnew ?_ | refine w_oNone ?_ | refine w_oSome ?_ | refine w_slc ?_ | refine w_lslc ?_ | refine slcT ?_ | refine slcS ?_
  | refine w_call ?_ | refine w_callL ?_ | refine w_lcallL ?_ | refine w_lcallN ?_ | refine w_isi ?_ | refine w_app ?_ | refine w_app0 ?_ | refine w_lval ?_ | refine w_cat ?_ | refine w_eqL ?_ | refine w_lm ?_ | refine w_ext ?_ | refine w_sm ?_ | refine w_sm0 ?_ | refine w_lsm ?_ | refine w_smL ?_ | refine w_dic0 ?_ | refine w_dic1 ?_ | refine w_iV ?_ | refine w_iL ?_ | refine il_none ?_ | refine il_some ?_ | refine w_rng ?_ | refine w_comp ?_ | refine w_rev ?_ | refine w_lenSet ?_ | refine w_extV ?_
  | refine o_addI ?_ | refine o_iadd ?_ | refine o_sub ?_ | refine o_neg ?_ | refine o_ltI ?_ | refine o_le ?_ | refine o_gt ?_ | refine o_ge ?_ | refine o_is ?_ | refine o_isNot ?_ | refine o_lenT ?_ | refine o_lenF ?_ | refine o_lenS ?_ | refine o_intB ?_ | refine o_intI ?_ | refine o_max ?_ | refine o_min ?_ | refine o_tupT ?_ | refine o_eqI ?_ | refine o_eqS ?_ | refine o_eqB ?_
  | refine b_is ?_ | refine i_is ?_ | refine s_is ?_ | refine i_tup ?_ | refine i_str ?_ | refine tr_bl ?_ | refine ty_bl ?_ | refine ty_str ?_ | refine ty_tup ?_ | refine ty_int ?_ | refine k_s ?_ | refine k_i ?_
  | refine Br.tt ?_ | refine Br.ff ?_ | refine Br.nf ?_ | refine Br.nt ?_ | refine f_ret ?_ | refine f_nx ?_ | refine f_body ?_)
def kTongue : PV := .tup (barL.map .str)
def kLetters : PV := .str (Str.ofString "abcdefghijklmnopqrstuvwxyz")
noncomputable def bIsName : TSt :=   (sSeq (sIf (bOr (bNot (bV (vIsi "str" (vVar 0)))) (bOr (bNot (bBl (vChn oLe oLe (vC (.int 1)) (vCall fLen (vsCons (vVar 0) vsNil)) (vC (.int 8))))) (bBl (vBin oIn (vVar 0) (vC kTongue))))) (sSeq (sRet (vC (.bl false))) sNil) sNil) (sSeq (sRet (vCallL fAll (lComp (tgN 1) (iV (vVar 0)) bYes (vBin oIn (vVar 1) (vC kLetters)) [1]))) sNil))
section
variable {n : Nat} {Q : PV → Store → Prop} {E : PX → Store → Prop} {S0 : Store}
/-! names -/
def tyd (S0 : Store) (x : PV) : Prop := ∃ t, tyN S0 x = some t
def nmS (z : Str) : Bool := decide (1 ≤ z.length) && (decide (z.length ≤ 8) && (!decide (z ∈ barL) && z.cps.toList.all fun c => decide (c ∈ lt26)))
def nm : PV → Bool
  | .str z => nmS z
  | _ => false
theorem ty_not {S0 : Store} {x : PV} {t : String} (h : tyN S0 x = some t) (hx : ∀ z, x ≠ .str z) : isI t "str" = false := by
  cases x with
  | str z => exact absurd rfl (hx z)
  | ref j =>
    simp only [tyN] at h
    split at h <;> first | (cases h; rfl) | cases h
  | _ => cases h; rfl
theorem nm_not {x : PV} (hx : ∀ z, x ≠ .str z) : nm x = false := by
  cases x with
  | str z => exact absurd rfl (hx z)
  | _ => rfl
theorem is_name_w {x : PV} (t : tyd S0 x) (q : Q (.bl (nm x)) S0) : W (fnV 1 2 bIsName [x] S0) Q E := by
  rw [show fnV 1 2 bIsName [x] S0 = fin S0 (bIsName [some x, none] S0) from fnV_eq 1 2 _ _ _ rfl]
  refine f_body ?_
  unfold bIsName kLetters
  obtain ⟨t, ht⟩ := t
  repeat walk_at "w"
  refine Op.of ht ?_
  by_cases hx : ∃ z, x = .str z
  · obtain ⟨z, rfl⟩ := hx
    cases ht
    repeat walk_at "w"
    refine Br.of_ff rfl ?_
    repeat walk_at "w"
    refine Br.dec (fun h1 => ?_) (fun h1 => ?_)
    · repeat walk_at "w"
      refine Br.ndec (fun h2 => ?_) (fun h2 => ?_)
      · repeat walk_at "w"
        refine g_keep (Kp.refl _) (by rfl) ?_
        have e : nm (.str z) = false := by simp only [nm, nmS]; rw [decide_eq_false (p := z.length ≤ 8) (by omega)]; simp
        rw [e] at q; exact q
      · repeat walk_at "w"
        unfold kTongue
        refine o_in (in_strsT z) ?_
        repeat walk_at "w"
        refine Br.dec (fun h3 => ?_) (fun h3 => ?_)
        · repeat walk_at "w"
          refine g_keep (Kp.refl _) (by rfl) ?_
          have e : nm (.str z) = false := by simp only [nm, nmS]; rw [decide_eq_true h3]; simp
          rw [e] at q; exact q
        · repeat walk_at "w"
          simp only [wipeE, List.set_cons_succ, List.set_cons_zero]
          refine w_pureY (fun x => match x with | .str y => .bl (inStr y (S lt26)) | x => x) trivial (fun x hx => ?_) ?_
          · obtain ⟨c, hc, rfl⟩ := List.mem_map.mp hx
            refine t_n (.succ .zero) ?_
            repeat walk_at "w"
            refine o_in (in_text _ _) ?_
            exact ⟨rfl, rfl⟩
          · rw [show ((z.cps.toList.map fun c => PV.str ⟨#[c]⟩).map fun x => match x with | .str y => PV.bl (inStr y (S lt26)) | x => x) = (z.cps.toList.map fun c => decide (c ∈ lt26)).map PV.bl from by
              rw [List.map_map, List.map_map]
              refine List.map_congr_left fun c _ => ?_
              exact congrArg PV.bl (inStr_one lt26 c)]
            refine o_all ?_
            repeat walk_at "w"
            refine g_keep (Kp.refl _) (by rfl) ?_
            have e : nm (.str z) = (z.cps.toList.map fun c => decide (c ∈ lt26)).all _root_.id := by
              simp only [nm, nmS]
              rw [decide_eq_true (p := z.length ≤ 8) (by omega), decide_eq_true (p := 1 ≤ z.length) (by omega), decide_eq_false h3, List.all_map]
              simp
            rw [e] at q; exact q
    · repeat walk_at "w"
      refine g_keep (Kp.refl _) (by rfl) ?_
      have e : nm (.str z) = false := by simp only [nm, nmS]; rw [decide_eq_false (p := 1 ≤ z.length) (by omega)]; simp
      rw [e] at q; exact q
  · rw [ty_not ht (fun z h => hx ⟨z, h⟩)]
    repeat walk_at "w"

    refine g_keep (Kp.refl _) (by rfl) ?_
    rw [nm_not (fun z h => hx ⟨z, h⟩)] at q
    exact q
end
/-! typed at every depth -/
mutual
def tyD (S0 : Store) : PV → Prop
  | .tup xs => tyDs S0 xs
  | .ref j => tyd S0 (.ref j)
  | _ => True
def tyDs (S0 : Store) : List PV → Prop
  | [] => True
  | x :: xs => tyD S0 x ∧ tyDs S0 xs
end
theorem tyD.ty {S0 : Store} {x : PV} (h : tyD S0 x) : tyd S0 x := by
  cases x with
  | ref j => simpa only [tyD] using h
  | _ => exact ⟨_, rfl⟩
theorem tyDs_iff {S0 : Store} {xs : List PV} : tyDs S0 xs ↔ ∀ x ∈ xs, tyD S0 x := by
  induction xs with
  | nil => simp [tyDs]
  | cons x xs ih => simp [tyDs, ih]
theorem tyD.elem {S0 : Store} {xs : List PV} (h : tyD S0 (.tup xs)) {x : PV} (hx : x ∈ xs) : tyD S0 x := by
  simp only [tyD] at h
  exact tyDs_iff.mp h x hx
end Ev

/-! Fw22: a list made longer by a tuple. -/
namespace Ev
section
open PySem PySem.SeqAt
open AutoSeq1 (wpAny_loadPart')
open MeetsSeq MeetsSeq2 MeetsSeq3 SeqRoads2
set_option maxRecDepth 8000 in
/-- list.extend with a tuple, whatever else the tuple has -/
theorem extend_tup (l b : Addr) (xs ys : Array Value) (n n2 : Nat) (dd : Option Addr) (sl : Array (Option Value)) (fits : ¬(!xs.isEmpty && Builtin.List.listTooLong (xs.size + ys.size)) = true) (few : xs.size ≤ sizeLine) (few2 : xs.size + ys.size ≤ sizeLine + 1) :
    Meets (Builtin.«list.extend» ⟨[.ref l, .ref b], []⟩) (fun _ R s => s.heap.get? l = some { cls := .type "list", dict := none, data := .seq xs n, slots := #[] } ∧ s.heap.get? b = some { cls := .type "tuple", dict := dd, data := .seq ys n2, slots := sl } ∧ R (.ok (.ret Value.none)) { s with heap := s.heap.update l (Obj.mapSeq fun x => x ++ ys), toks := s.toks }) :=
  .of_wp fun prog w A R s h => by
    obtain ⟨hp, g, d, tk, os⟩ := s
    obtain ⟨hl, hb, h⟩ := h
    have i1 := AutoSeq1.idx_int; have i2 := AutoSeq1.sub_tuple_tuple; have i3 := AutoSeq1.sub_list_list; have i4 := AutoSeq1.sub_tuple_list; have i5 := AutoSeq1.sub_list_tuple
    have all : (xs ++ ys).size ≤ sizeLine + 1 := by rw [Array.size_append]; exact few2
    wp_walk using (wpAny_updateSeq hl rfl (hz := few) (_hz' := all)), wpAny_loadPart' hl, wpAny_loadPart' hb
    exact ⟨_, rfl, h⟩
end
open PySem PySem.Spec PyProof.Rows L2
section
variable {X : Cx} {W : WX} {o e : Expr} {eo ea : TV} {apos cpos : Pos}
def rExtT (K : PySem.W.Frag) (cm : Str → Value → Prop) : V → List V → Hp → VK → Prop := fun x vs H Q => ∃ μ S j a b xs ys ws, RS K cm μ S H ∧ x = .ref a ∧ vs = [.ref b] ∧ μ[j]? = some a ∧ S[j]? = some (.lst xs) ∧ SqT K H b ws ∧ RVs K μ H ys ws ∧ xs.length + ys.length ≤ sizeLine ∧
  ∀ H', Ext μ H μ H' → RS K cm μ (S.set j (.lst (xs ++ ys))) H' → Q .non H'
theorem ms_extendT : MtR X "list.extend" (rExtT X.K (cmX X)) := by
  intro pins s σ H x vs v us Q I rx rv h
  obtain ⟨μ, S, j, a, b, xs, ys, ws, R, rfl, rfl, hj, hS, sq, ry, hl, q⟩ := h
  obtain ⟨vs0, h0, l0, r0⟩ := R.ob j a _ hj hS
  cases rx
  obtain ⟨u, rfl, ru⟩ := rv.one
  cases ru
  obtain ⟨z, its, m, r, hl1, e1⟩ := I.lstM h0
  obtain ⟨its2, r2, ⟨⟨c2, d2, dt2, sl2⟩, e2, hc2, m2, hd2⟩, hz2⟩ := I.tuple sq
  simp only at hc2 hd2
  subst hc2 hd2
  have n1 : its.toArray.size = xs.length := by rw [List.size_toArray, ← r.length, r0.length]
  have n2 : its2.toArray.size = ys.length := by rw [List.size_toArray, ← r2.length, ry.length]
  have fits : ¬ (!its.toArray.isEmpty && Builtin.List.listTooLong (its.toArray.size + its2.toArray.size)) = true := by
    rw [notLongL (by omega), Bool.and_false]; exact Bool.false_ne_true
  refine call_meets PySem.F.slot_list_extend ⟨_, e1, rfl⟩ PySem.F.entry_list_extend (PySem.F.args_list_extend_2 _ _) (extend_tup a b its.toArray its2.toArray m m2 d2 sl2 fits (by omega) (by omega)) ⟨e1, e2, ?_⟩
  refine ⟨.non, _, I.lset (its' := its ++ its2) h0 e1 (by simp) (r.append r2) (by have q1 := r0.length; have q2 := ry.length; rw [List.length_append]; omega), rfl, ?_⟩
  exact q _ (Ext.put hj) (R.put hj ⟨_, upd_same, by rw [List.length_append]; exact hl, RVs.mono R (Ext.put hj) (r0.append ry)⟩)
def vExtV (o a : TV) : TV := fun ρ S => (o ρ S).bind fun x S => match x with
  | .ref j => match S[j]? with
    | some (.lst _) => (a ρ S).bind fun y S => match S[j]?, y with
      | some (.lst xs), .tup ys => if xs.length + ys.length ≤ sizeLine then .ok .non (S.set j (.lst (xs ++ ys))) else .bad
      | _, _ => .bad
    | _ => .bad
  | _ => .bad
theorem sv_extendV (ho : PE X o (E_ X W eo)) (ha : PE X e (E_ X W ea))
    (hbase : attributeBase o "extend" X.env (eval o X.env) = eval o X.env := by rfl)
    (hfew : ((backTo cpos (starEach [e] X.env)).all (fun x => !x.1) && (backToKw cpos (keywordEach [] X.env)).all (fun x => x.1.isSome)
      && decide (([e] : List Expr).length + ([] : List Keyword).length + (if ([] : List Keyword).isEmpty then 0 else 1) < 30)) = true := by rfl)
    (hline : (apos.endLine == cpos.line) = true := by rfl) (hs : starEach [e] X.env = (false, eval e X.env) :: starEach [] X.env := by rfl) :
    PE X (.Call (.Attribute o "extend" apos) [e] [] cpos) (E_ X W (vExtV eo ea)) := by
  refine PE.imp (pe_bm PySem.F.plainAttrs_list PySem.F.slot_list_extend PySem.F.type_list_extend ms_extendT ho (pa_cons ha pa_nil hs) hbase hfew hline hs (by rfl)) fun σ H Q h => ?_
  obtain ⟨μ, S, ρ, R, E, p⟩ := h
  refine ⟨μ, S, ρ, R, E, Post.step (P := fun μ H r => Post X.K (cmX X) μ H r Q (atσ W σ)) p (fun _ _ h => h) (fun h => h) fun x S1 μ1 H1 v E1 R1 rv p => ?_⟩
  split at p
  · rename_i j
    split at p
    · rename_i xs0 hS0
      cases rv with
      | @ref _ ad hj =>
        obtain ⟨vs0, h0, _, _⟩ := R1.ob j ad _ hj hS0
        refine ⟨.inl ⟨rfl, vs0, SqL.of h0⟩, μ1, S1, ρ, R1, E.mono R E1, Post.step (P := fun μ H r => Post X.K (cmX X) μ H r Q (atσ W σ)) (Post.ext E1 p) (fun _ _ h => h) (fun h => h) fun y S2 μ2 H2 w E2 R2 ry p => ?_⟩
        split at p
        · rename_i xs ys hS
          split at p
          · rename_i hc
            cases ry with
            | tup sq l r => exact ⟨μ2, S2, j, ad, _, xs, ys, _, R2, rfl, rfl, E2.pre _ _ hj, hS, sq, r, hc, fun H' E3 R3 => p μ2 H' _ (E2.trans E3) R3 .non⟩
          · exact p.elim
        · exact p.elim
    · exact p.elim
  · exact p.elim
end
section
variable {Q : PV → Store → Prop} {E : PX → Store → Prop} {ρ : Env'} {S : Store} {o a : TV}
def ExtR (j : Nat) (y : PV) (S : Store) (Q : PV → Store → Prop) : Prop := match S[j]?, y with
  | some (.lst xs), .tup ys => xs.length + ys.length ≤ sizeLine ∧ Q .non (S.set j (.lst (xs ++ ys)))
  | _, _ => False
theorem w_extV (h : W (o ρ S) (fun x S => Op (getL S x) fun _ => W (a ρ S) (fun y S => ExtR x.num y S Q) E) E) : W (vExtV o a ρ S) Q E := by
  refine W_bind (W_mono h (fun x S h => ?_) fun _ _ h => h)
  cases hg : getL S x with
  | none => rw [hg] at h; exact h.elim
  | some xs =>
    rw [hg] at h
    obtain ⟨e1, e2⟩ := getL_num hg
    generalize hx : x.num = j at *
    subst e1
    dsimp only
    rw [e2]
    refine W_bind (W_mono h (fun y S h => ?_) fun _ _ h => h)
    unfold ExtR at h
    split at h
    · rename_i us ys hS
      try rw [hS]
      try dsimp only
      rw [if_pos h.1]; exact h.2
    · exact h.elim
theorem extR {j : Nat} {xs ys : List PV} (g : S[j]? = some (.lst xs)) (h : xs.length + ys.length ≤ sizeLine) (q : Q .non (S.set j (.lst (xs ++ ys)))) : ExtR j (.tup ys) S Q := by
  unfold ExtR; rw [g]; exact ⟨h, q⟩
end
end Ev

/-! Fw23: what a kind is, as the program looks at it. -/
namespace Ev
open PySem PySem.Spec PyProof.Rows L2 SX
local macro_rules | `(tactic| walk_at "w") => `(tactic| first
  | (with_reducible apply s_set; focus (repeat first | exact SetR.zero | apply SetR.succ))
  | (with_reducible apply w_get; focus (repeat first | exact GetR.zero | apply GetR.succ))
  | with_reducible first
  | refine s_seqN ?_ | refine s_seq ?_ | refine q_nx ?_ | refine q_ret ?_ | refine q_brk ?_ | refine q_cnt ?_ | refine q_exc ?_
  | refine s_nil ?_ | refine s_pass ?_ | refine s_brk ?_ | refine s_cnt ?_ | refine s_expr ?_ | refine s_ret ?_ | refine s_retN ?_ | refine s_if ?_ | refine s_unp ?_ | refine s_sub ?_ | refine s_for ?_
  | refine w_c ?_ | (refine w_str ?_ ?_; decide +kernel) | refine w_bin ?_ | refine w_un ?_ | refine w_chn ?_ | refine w_bV ?_ | refine w_bBl ?_ | refine w_bAnd ?_ | refine w_bOr ?_ | refine w_bNot ?_ | refine w_bYes ?_
  | refine w_vAnd ?_ | refine w_vOr ?_ | refine w_vNot ?_ | refine w_vIf ?_ | refine w_nil ?_ | refine w_cons ?_ | refine w_tup ?_ | refine w_disp ?_ | refine w_new ?_ | refine lnew ?_ | refine w_oNone ?_ | refine w_oSome ?_ | refine w_slc ?_ | refine w_lslc ?_ | refine slcT ?_ | refine slcS ?_
  | refine w_call ?_ | refine w_callL ?_ | refine w_lcallL ?_ | refine w_lcallN ?_ | refine w_isi ?_ | refine w_app ?_ | refine w_app0 ?_ | refine w_lval ?_ | refine w_cat ?_ | refine w_eqL ?_ | refine w_lm ?_ | refine w_ext ?_ | refine w_sm ?_ | refine w_sm0 ?_ | refine w_lsm ?_ | refine w_smL ?_ | refine w_dic0 ?_ | refine w_dic1 ?_ | refine w_iV ?_ | refine w_iL ?_ | refine il_none ?_ | refine il_some ?_ | refine w_rng ?_ | refine w_comp ?_ | refine w_rev ?_ | refine w_lenSet ?_ | refine w_extV ?_
  | refine o_addI ?_ | refine o_iadd ?_ | refine o_sub ?_ | refine o_neg ?_ | refine o_ltI ?_ | refine o_le ?_ | refine o_gt ?_ | refine o_ge ?_ | refine o_is ?_ | refine o_isNot ?_ | refine o_lenT ?_ | refine o_lenF ?_ | refine o_lenS ?_ | refine o_intB ?_ | refine o_intI ?_ | refine o_max ?_ | refine o_min ?_ | refine o_tupT ?_ | refine o_eqI ?_ | refine o_eqS ?_ | refine o_eqB ?_
  | refine b_is ?_ | refine i_is ?_ | refine s_is ?_ | refine i_tup ?_ | refine i_str ?_ | refine tr_bl ?_ | refine ty_bl ?_ | refine ty_str ?_ | refine ty_tup ?_ | refine ty_int ?_ | refine k_s ?_ | refine k_i ?_
  | refine Br.tt ?_ | refine Br.ff ?_ | refine Br.nf ?_ | refine Br.nt ?_ | refine f_ret ?_ | refine f_nx ?_ | refine f_body ?_)
noncomputable def bMaybe : TSt := (sSeq (sRet (vOr (vBin oIs (vVar 0) (vC .non)) (vApp (fnV 1 2 bIsName) (vsCons (vVar 0) vsNil)))) sNil)
noncomputable def bIsOut : TSt := (sSeq (sIf (bOr (bNot (bV (vIsi "tuple" (vVar 0)))) (bBl (vBin oNe (vCall fLen (vsCons (vVar 0) vsNil)) (vC (.int 3))))) (sSeq (sRet (vC (.bl false))) sNil) sNil) (sSeq (sRet (vAnd (vApp (fnV 1 2 bIsName) (vsCons (vBin oIdx (vVar 0) (vC (.int 0))) vsNil)) (vAnd (vApp (fnV 1 1 bMaybe) (vsCons (vBin oIdx (vVar 0) (vC (.int 1))) vsNil)) (vApp (fnV 1 1 bMaybe) (vsCons (vBin oIdx (vVar 0) (vC (.int 2))) vsNil))))) sNil))
noncomputable def bUnlikeN : TSt := (sSeq (sRet (vBin oEq (vLenSet (vVar 0)) (vCall fLen (vsCons (vVar 0) vsNil)))) sNil)
def sMaybe (x : PV) : Bool := x.isNon || nm x
def sOut : PV → Bool
  | .tup [a, b, c] => nm a && (sMaybe b && sMaybe c)
  | _ => false
theorem ty_notT {S0 : Store} {x : PV} {t : String} (h : tyN S0 x = some t) (hx : ∀ z, x ≠ .tup z) : isI t "tuple" = false := by
  cases x with
  | tup z => exact absurd rfl (hx z)
  | ref j =>
    simp only [tyN] at h
    split at h <;> first | (cases h; rfl) | cases h
  | _ => cases h; rfl
section
variable {Q : PV → Store → Prop} {E : PX → Store → Prop} {S0 : Store}
theorem maybe_w {x : PV} (t : tyd S0 x) (q : Q (.bl (sMaybe x)) S0) : W (fnV 1 1 bMaybe [x] S0) Q E := by
  rw [show fnV 1 1 bMaybe [x] S0 = fin S0 (bMaybe [some x] S0) from fnV_eq 1 1 _ _ _ rfl]
  refine f_body ?_
  unfold bMaybe
  repeat walk_at "w"
  unfold sMaybe at q
  cases hb : x.isNon
  · rw [hb] at q
    repeat walk_at "w"
    refine is_name_w t ?_
    repeat walk_at "w"
    exact g_keep (Kp.refl _) (by rfl) q
  · rw [hb] at q
    repeat walk_at "w"
    exact g_keep (Kp.refl _) (by rfl) q
theorem is_out_w {x : PV} (t : tyD S0 x) (q : Q (.bl (sOut x)) S0) : W (fnV 1 1 bIsOut [x] S0) Q E := by
  rw [show fnV 1 1 bIsOut [x] S0 = fin S0 (bIsOut [some x] S0) from fnV_eq 1 1 _ _ _ rfl]
  refine f_body ?_
  unfold bIsOut
  obtain ⟨ty, ht⟩ := t.ty
  repeat walk_at "w"
  refine Op.of ht ?_
  by_cases hx : ∃ z, x = .tup z
  · obtain ⟨z, rfl⟩ := hx
    cases ht
    repeat walk_at "w"
    refine Br.of_ff rfl ?_
    repeat walk_at "w"
    refine o_ne (eqS_int _ _ _) ?_
    repeat walk_at "w"
    by_cases hl : z.length = 3
    · obtain ⟨a, b, c, rfl⟩ : ∃ a b c, z = [a, b, c] := by
        match z, hl with
        | [a, b, c], _ => exact ⟨a, b, c, rfl⟩
      refine Br.of_ff (by simp) ?_
      repeat walk_at "w"
      refine o_idxT (at0 _ _) ?_
      repeat walk_at "w"
      refine is_name_w (t.elem (by simp)).ty ?_
      repeat walk_at "w"
      have q : Q (.bl (nm a && (sMaybe b && sMaybe c))) S0 := q
      cases h1 : nm a
      · rw [h1] at q
        repeat walk_at "w"
        exact g_keep (Kp.refl _) (by rfl) q
      · rw [h1] at q
        repeat walk_at "w"
        refine o_idxT (at1 _ _ _) ?_
        repeat walk_at "w"
        refine maybe_w (t.elem (by simp)).ty ?_
        repeat walk_at "w"
        cases h2 : sMaybe b
        · rw [h2] at q
          repeat walk_at "w"
          exact g_keep (Kp.refl _) (by rfl) q
        · rw [h2] at q
          repeat walk_at "w"
          refine o_idxT (at2 _ _ _ _) ?_
          repeat walk_at "w"
          refine maybe_w (t.elem (by simp)).ty ?_
          repeat walk_at "w"
          exact g_keep (Kp.refl _) (by rfl) q
    · refine Br.of_tt (by simp; omega) ?_
      repeat walk_at "w"
      refine g_keep (Kp.refl _) (by rfl) ?_
      have e : sOut (.tup z) = false := by
        unfold sOut
        split
        · rename_i heq; cases heq; simp at hl
        · rfl
      rw [e] at q; exact q
  · rw [ty_notT ht (fun z h => hx ⟨z, h⟩)]
    repeat walk_at "w"
    refine g_keep (Kp.refl _) (by rfl) ?_
    have e : sOut x = false := by
      unfold sOut
      split
      · exact absurd ⟨_, rfl⟩ hx
      · rfl
    rw [e] at q; exact q
theorem unlikeN_w {j : Nat} {bs : List Str} (hj : S0[j]? = some (.lst (bs.map .str))) (few : bs.length ≤ 4000) (q : Q (.bl (decide bs.Nodup)) S0) : W (fnV 1 1 bUnlikeN [.ref j] S0) Q E := by
  rw [show fnV 1 1 bUnlikeN [.ref j] S0 = fin S0 (bUnlikeN [some (.ref j)] S0) from fnV_eq 1 1 _ _ _ rfl]
  refine f_body ?_
  unfold bUnlikeN
  repeat walk_at "w"
  have lr : ∀ {P : PV → Store → Prop}, P (.int (unlikes bs).length) S0 → LenR (.ref j) S0 P := by
    intro P p
    unfold LenR
    rw [deref_ref hj]
    dsimp only
    rw [asStr_strs]
    exact ⟨few, p⟩
  refine lr ?_
  repeat walk_at "w"
  refine o_lenR hj ?_
  repeat walk_at "w"
  rw [List.length_map]
  refine g_keep (Kp.refl _) (by rfl) ?_
  have e : (((unlikes bs).length : Int) == (bs.length : Int)) = decide bs.Nodup := by
    rw [Bool.eq_iff_iff, beq_iff_eq, decide_eq_true_eq, ← unlikes_nodup]
    omega
  rw [e]; exact q
end
end Ev

/-! Fw24: what a deed is, as the program looks at it. -/
namespace Ev
open PySem PySem.Spec PyProof.Rows L2 SX
local macro_rules | `(tactic| walk_at "w") => `(tactic| first
  | (with_reducible apply s_set; focus (repeat first | exact SetR.zero | apply SetR.succ))
  | (with_reducible apply w_get; focus (repeat first | exact GetR.zero | apply GetR.succ))
  | with_reducible first
  | refine s_seqN ?_ | refine s_seq ?_ | refine q_nx ?_ | refine q_ret ?_ | refine q_brk ?_ | refine q_cnt ?_ | refine q_exc ?_
  | refine s_nil ?_ | refine s_pass ?_ | refine s_brk ?_ | refine s_cnt ?_ | refine s_expr ?_ | refine s_ret ?_ | refine s_retN ?_ | refine s_if ?_ | refine s_unp ?_ | refine s_sub ?_ | refine s_for ?_
  | refine w_c ?_ | (refine w_str ?_ ?_; decide +kernel) | refine w_bin ?_ | refine w_un ?_ | refine w_chn ?_ | refine w_bV ?_ | refine w_bBl ?_ | refine w_bAnd ?_ | refine w_bOr ?_ | refine w_bNot ?_ | refine w_bYes ?_
  | refine w_vAnd ?_ | refine w_vOr ?_ | refine w_vNot ?_ | refine w_vIf ?_ | refine w_nil ?_ | refine w_cons ?_ | refine w_tup ?_ | refine w_disp ?_ | refine w_new ?_ | refine lnew ?_ | refine w_oNone ?_ | refine w_oSome ?_ | refine w_slc ?_ | refine w_lslc ?_ | refine slcT ?_ | refine slcS ?_
  | refine w_call ?_ | refine w_callL ?_ | refine w_lcallL ?_ | refine w_lcallN ?_ | refine w_isi ?_ | refine w_app ?_ | refine w_app0 ?_ | refine w_lval ?_ | refine w_cat ?_ | refine w_eqL ?_ | refine w_lm ?_ | refine w_ext ?_ | refine w_sm ?_ | refine w_sm0 ?_ | refine w_lsm ?_ | refine w_smL ?_ | refine w_dic0 ?_ | refine w_dic1 ?_ | refine w_iV ?_ | refine w_iL ?_ | refine il_none ?_ | refine il_some ?_ | refine w_rng ?_ | refine w_comp ?_ | refine w_rev ?_ | refine w_lenSet ?_ | refine w_extV ?_
  | refine o_addI ?_ | refine o_iadd ?_ | refine o_sub ?_ | refine o_neg ?_ | refine o_ltI ?_ | refine o_le ?_ | refine o_gt ?_ | refine o_ge ?_ | refine o_is ?_ | refine o_isNot ?_ | refine o_lenT ?_ | refine o_lenF ?_ | refine o_lenS ?_ | refine o_intB ?_ | refine o_intI ?_ | refine o_max ?_ | refine o_min ?_ | refine o_tupT ?_ | refine o_eqI ?_ | refine o_eqS ?_ | refine o_eqB ?_
  | refine b_is ?_ | refine i_is ?_ | refine s_is ?_ | refine i_tup ?_ | refine i_str ?_ | refine tr_bl ?_ | refine ty_bl ?_ | refine ty_str ?_ | refine ty_tup ?_ | refine ty_int ?_ | refine k_s ?_ | refine k_i ?_
  | refine Br.tt ?_ | refine Br.ff ?_ | refine Br.nf ?_ | refine Br.nt ?_ | refine f_ret ?_ | refine f_nx ?_ | refine f_body ?_)
noncomputable def bIsDeed : TSt := (sSeq (sIf (bOr (bNot (bV (vIsi "tuple" (vVar 0)))) (bOr (bBl (vBin oNe (vCall fLen (vsCons (vVar 0) vsNil)) (vC (.int 2)))) (bOr (bNot (bV (vApp (fnV 1 2 bIsName) (vsCons (vBin oIdx (vVar 0) (vC (.int 0))) vsNil)))) (bNot (bV (vIsi "tuple" (vBin oIdx (vVar 0) (vC (.int 1))))))))) (sSeq (sRet (vC (.bl false))) sNil) sNil) (sSeq (sIf (bOr (bNot (bBl (vChn oLe oLe (vC (.int 1)) (vCall fLen (vsCons (vBin oIdx (vVar 0) (vC (.int 1))) vsNil)) (vC (.int 6))))) (bNot (bV (vCallL fAll (lComp (tgN 1) (iV (vBin oIdx (vVar 0) (vC (.int 1)))) bYes (vApp (fnV 1 1 bIsOut) (vsCons (vVar 1) vsNil)) [1]))))) (sSeq (sRet (vC (.bl false))) sNil) sNil) (sSeq (sRet (vApp (fnV 1 1 bUnlikeN) (vsCons (vNew (lComp (tgT (tgCons (tgN 2) (tgCons (tgN 3) (tgCons (tgN 4) tgNil)))) (iV (vBin oIdx (vVar 0) (vC (.int 1)))) bYes (vVar 2) [2, 3, 4])) vsNil))) sNil)))
/-- the name at the head of a tuple -/
def hdN : PV → Str
  | .tup (.str z :: _) => z
  | _ => Str.empty
def sDeed : PV → Bool
  | .tup [a, .tup os] => nm a && ((decide (1 ≤ os.length) && decide (os.length ≤ 6)) && (os.all sOut && decide (os.map hdN).Nodup))
  | _ => false
theorem nm_str {x : PV} (h : nm x = true) : ∃ z, x = .str z := by
  cases x with
  | str z => exact ⟨z, rfl⟩
  | _ => cases h
theorem sOut_tup {x : PV} (h : sOut x = true) : ∃ z b c, x = .tup [.str z, b, c] := by
  unfold sOut at h
  split at h
  · rename_i a b c
    simp only [Bool.and_eq_true] at h
    obtain ⟨z, rfl⟩ := nm_str h.1
    exact ⟨z, b, c, rfl⟩
  · cases h
section
variable {Q : PV → Store → Prop} {E : PX → Store → Prop} {S0 : Store}
theorem deed_tail {a : PV} {os : List PV} (t : tyD S0 (.tup os)) (q : Q (.bl ((decide (1 ≤ os.length) && decide (os.length ≤ 6)) && (os.all sOut && decide (os.map hdN).Nodup))) S0) :
    WS (sSeq (sIf (bOr (bNot (bBl (vChn oLe oLe (vC (.int 1)) (vCall fLen (vsCons (vBin oIdx (vVar 0) (vC (.int 1))) vsNil)) (vC (.int 6))))) (bNot (bV (vCallL fAll (lComp (tgN 1) (iV (vBin oIdx (vVar 0) (vC (.int 1)))) bYes (vApp (fnV 1 1 bIsOut) (vsCons (vVar 1) vsNil)) [1]))))) (sSeq (sRet (vC (.bl false))) sNil) sNil) (sSeq (sRet (vApp (fnV 1 1 bUnlikeN) (vsCons (vNew (lComp (tgT (tgCons (tgN 2) (tgCons (tgN 3) (tgCons (tgN 4) tgNil)))) (iV (vBin oIdx (vVar 0) (vC (.int 1)))) bYes (vVar 2) [2, 3, 4])) vsNil))) sNil) [some (.tup [a, .tup os]), none, none, none, none] S0) fun r => W (fin S0 r) Q E := by
  repeat walk_at "w"
  refine o_idxT (at1 _ _ _) ?_
  repeat walk_at "w"
  refine Br.dec (fun h1 => ?_) (fun h1 => ?_)
  · repeat walk_at "w"
    refine Br.ndec (fun h2 => ?_) (fun h2 => ?_)
    · repeat walk_at "w"
      refine g_keep (Kp.refl _) (by rfl) ?_
      rw [decide_eq_false (p := os.length ≤ 6) (by omega)] at q
      simpa using q
    · repeat walk_at "w"
      refine o_idxT (at1 _ _ _) ?_
      repeat walk_at "w"
      simp only [wipeE, List.set_cons_succ, List.set_cons_zero]
      refine w_pureY (fun x => .bl (sOut x)) trivial (fun x hx => ?_) ?_
      · refine t_n (.succ .zero) ?_
        repeat walk_at "w"
        exact is_out_w (t.elem hx) ⟨rfl, rfl⟩
      · rw [show (os.map fun x => PV.bl (sOut x)) = (os.map sOut).map PV.bl from by rw [List.map_map]; rfl]
        refine o_all ?_
        repeat walk_at "w"
        rw [decide_eq_true (p := 1 ≤ os.length) (by omega), decide_eq_true (p := os.length ≤ 6) (by omega)] at q
        have ea : (os.map sOut).all _root_.id = os.all sOut := by rw [List.all_map]; rfl
        rw [ea]
        cases hb : os.all sOut
        · rw [hb] at q
          repeat walk_at "w"
          exact g_keep (Kp.refl _) (by rfl) q
        · rw [hb] at q
          repeat walk_at "w"
          refine o_idxT (at1 _ _ _) ?_
          repeat walk_at "w"
          simp only [wipeE, List.set_cons_succ, List.set_cons_zero]
          refine w_pureY (fun x => .str (hdN x)) trivial (fun x hx => ?_) ?_
          · obtain ⟨z, b, c, rfl⟩ := sOut_tup (List.all_eq_true.mp hb x hx)
            refine t_three (.succ (.succ .zero)) (.succ (.succ (.succ .zero))) (.succ (.succ (.succ (.succ .zero)))) ?_
            repeat walk_at "w"
            exact ⟨rfl, rfl⟩
          · rw [show (os.map fun x => PV.str (hdN x)) = (os.map hdN).map PV.str from by rw [List.map_map]; rfl]
            repeat walk_at "w"
            refine unlikeN_w (get_app _ _ _) (by simp; omega) ?_
            refine f_ret ?_
            exact g_keep (Kp.app _ _) (by rfl) q
  · repeat walk_at "w"
    refine g_keep (Kp.refl _) (by rfl) ?_
    rw [decide_eq_false (p := 1 ≤ os.length) (by omega)] at q
    simpa using q
theorem is_deed_w {x : PV} (t : tyD S0 x) (q : Q (.bl (sDeed x)) S0) : W (fnV 1 5 bIsDeed [x] S0) Q E := by
  rw [show fnV 1 5 bIsDeed [x] S0 = fin S0 (bIsDeed [some x, none, none, none, none] S0) from fnV_eq 1 5 _ _ _ rfl]
  refine f_body ?_
  unfold bIsDeed
  obtain ⟨ty, ht⟩ := t.ty
  repeat walk_at "w"
  refine Op.of ht ?_
  by_cases hx : ∃ z, x = .tup z
  · obtain ⟨z, rfl⟩ := hx
    cases ht
    repeat walk_at "w"
    refine Br.of_ff rfl ?_
    repeat walk_at "w"
    refine o_ne (eqS_int _ _ _) ?_
    repeat walk_at "w"
    by_cases hl : z.length = 2
    · obtain ⟨a, b, rfl⟩ : ∃ a b, z = [a, b] := by
        match z, hl with
        | [a, b], _ => exact ⟨a, b, rfl⟩
      refine Br.of_ff (by simp) ?_
      repeat walk_at "w"
      refine o_idxT (at0 _ _) ?_
      repeat walk_at "w"
      refine is_name_w (t.elem (by simp)).ty ?_
      repeat walk_at "w"
      have tb : tyD S0 b := t.elem (by simp)
      cases h1 : nm a
      · repeat walk_at "w"
        refine g_keep (Kp.refl _) (by rfl) ?_
        have e : sDeed (.tup [a, b]) = false := by
          unfold sDeed
          split
          · rename_i heq; cases heq; rw [h1]; rfl
          · rfl
        rw [e] at q; exact q
      · repeat walk_at "w"
        refine o_idxT (at1 _ _ _) ?_
        obtain ⟨tyb, htb⟩ := tb.ty
        refine Op.of htb ?_
        repeat walk_at "w"
        by_cases hb : ∃ os, b = .tup os
        · obtain ⟨os, rfl⟩ := hb
          cases htb
          refine Br.of_ff rfl ?_
          refine s_nil (q_nx ?_)
          have e : sDeed (.tup [a, .tup os]) = ((decide (1 ≤ os.length) && decide (os.length ≤ 6)) && (os.all sOut && decide (os.map hdN).Nodup)) := by
            show (nm a && _) = _
            rw [h1, Bool.true_and]
          rw [e] at q
          exact deed_tail tb q
        · rw [ty_notT htb (fun z h => hb ⟨z, h⟩)]
          repeat walk_at "w"
          refine g_keep (Kp.refl _) (by rfl) ?_
          have e : sDeed (.tup [a, b]) = false := by
            unfold sDeed
            split
            · rename_i heq; cases heq; exact absurd ⟨_, rfl⟩ hb
            · rfl
          rw [e] at q; exact q
    · refine Br.of_tt (by simp; omega) ?_
      repeat walk_at "w"
      refine g_keep (Kp.refl _) (by rfl) ?_
      have e : sDeed (.tup z) = false := by
        unfold sDeed
        split
        · rename_i heq; cases heq; simp at hl
        · rfl
      rw [e] at q; exact q
  · rw [ty_notT ht (fun z h => hx ⟨z, h⟩)]
    repeat walk_at "w"
    refine g_keep (Kp.refl _) (by rfl) ?_
    have e : sDeed x = false := by
      unfold sDeed
      split
      · exact absurd ⟨_, rfl⟩ hx
      · rfl
    rw [e] at q; exact q
end
end Ev

/-! Fw25: what a state is, as the program looks at it. -/
namespace Ev
open PySem PySem.Spec PyProof.Rows L2 SX
local macro_rules | `(tactic| walk_at "w") => `(tactic| first
  | (with_reducible apply s_set; focus (repeat first | exact SetR.zero | apply SetR.succ))
  | (with_reducible apply w_get; focus (repeat first | exact GetR.zero | apply GetR.succ))
  | with_reducible first
  | refine s_seqN ?_ | refine s_seq ?_ | refine q_nx ?_ | refine q_ret ?_ | refine q_brk ?_ | refine q_cnt ?_ | refine q_exc ?_
  | refine s_nil ?_ | refine s_pass ?_ | refine s_brk ?_ | refine s_cnt ?_ | refine s_expr ?_ | refine s_ret ?_ | refine s_retN ?_ | refine s_if ?_ | refine s_unp ?_ | refine s_sub ?_ | refine s_for ?_
  | refine w_c ?_ | (refine w_str ?_ ?_; decide +kernel) | refine w_bin ?_ | refine w_un ?_ | refine w_chn ?_ | refine w_bV ?_ | refine w_bBl ?_ | refine w_bAnd ?_ | refine w_bOr ?_ | refine w_bNot ?_ | refine w_bYes ?_
  | refine w_vAnd ?_ | refine w_vOr ?_ | refine w_vNot ?_ | refine w_vIf ?_ | refine w_nil ?_ | refine w_cons ?_ | refine w_tup ?_ | refine w_disp ?_ | refine w_new ?_ | refine lnew ?_ | refine w_oNone ?_ | refine w_oSome ?_ | refine w_slc ?_ | refine w_lslc ?_ | refine slcT ?_ | refine slcS ?_
  | refine w_call ?_ | refine w_callL ?_ | refine w_lcallL ?_ | refine w_lcallN ?_ | refine w_isi ?_ | refine w_app ?_ | refine w_app0 ?_ | refine w_lval ?_ | refine w_cat ?_ | refine w_eqL ?_ | refine w_lm ?_ | refine w_ext ?_ | refine w_sm ?_ | refine w_sm0 ?_ | refine w_lsm ?_ | refine w_smL ?_ | refine w_dic0 ?_ | refine w_dic1 ?_ | refine w_iV ?_ | refine w_iL ?_ | refine il_none ?_ | refine il_some ?_ | refine w_rng ?_ | refine w_comp ?_ | refine w_rev ?_ | refine w_lenSet ?_ | refine w_extV ?_
  | refine o_addI ?_ | refine o_iadd ?_ | refine o_sub ?_ | refine o_neg ?_ | refine o_ltI ?_ | refine o_le ?_ | refine o_gt ?_ | refine o_ge ?_ | refine o_is ?_ | refine o_isNot ?_ | refine o_lenT ?_ | refine o_lenF ?_ | refine o_lenS ?_ | refine o_intB ?_ | refine o_intI ?_ | refine o_max ?_ | refine o_min ?_ | refine o_tupT ?_ | refine o_eqI ?_ | refine o_eqS ?_ | refine o_eqB ?_
  | refine b_is ?_ | refine i_is ?_ | refine s_is ?_ | refine i_tup ?_ | refine i_str ?_ | refine tr_bl ?_ | refine ty_bl ?_ | refine ty_str ?_ | refine ty_tup ?_ | refine ty_int ?_ | refine k_s ?_ | refine k_i ?_
  | refine Br.tt ?_ | refine Br.ff ?_ | refine Br.nf ?_ | refine Br.nt ?_ | refine f_ret ?_ | refine f_nx ?_ | refine f_body ?_)
noncomputable def bStTail : TSt := (sSeq (sIf (bOr (bNot (bV (vIsi "tuple" (vBin oIdx (vVar 0) (vC (.int 2)))))) (bOr (bBl (vBin oGt (vCall fLen (vsCons (vBin oIdx (vVar 0) (vC (.int 2))) vsNil)) (vC (.int 8)))) (bNot (bV (vCallL fAll (lComp (tgN 1) (iV (vBin oIdx (vVar 0) (vC (.int 2)))) bYes (vApp (fnV 1 5 bIsDeed) (vsCons (vVar 1) vsNil)) [1])))))) (sSeq (sRet (vC (.bl false))) sNil) sNil) (sSeq (sRet (vApp (fnV 1 1 bUnlikeN) (vsCons (vNew (lComp (tgT (tgCons (tgN 1) (tgCons (tgN 2) tgNil))) (iV (vBin oIdx (vVar 0) (vC (.int 2)))) bYes (vVar 1) [1, 2])) vsNil))) sNil))
noncomputable def bIsState : TSt := (sSeq (sIf (bOr (bNot (bV (vIsi "tuple" (vVar 0)))) (bOr (bBl (vBin oNe (vCall fLen (vsCons (vVar 0) vsNil)) (vC (.int 3)))) (bOr (bNot (bV (vApp (fnV 1 2 bIsName) (vsCons (vBin oIdx (vVar 0) (vC (.int 0))) vsNil)))) (bNot (bV (vIsi "bool" (vBin oIdx (vVar 0) (vC (.int 1))))))))) (sSeq (sRet (vC (.bl false))) sNil) sNil) bStTail)
def isBlB : PV → Bool
  | .bl _ => true
  | _ => false
def sDeeds : PV → Bool
  | .tup ds => decide (ds.length ≤ 8) && (ds.all sDeed && decide (ds.map hdN).Nodup)
  | _ => false
def sState : PV → Bool
  | .tup [a, b, c] => nm a && (isBlB b && sDeeds c)
  | _ => false
theorem sDeed_tup {x : PV} (h : sDeed x = true) : ∃ z b, x = .tup [.str z, b] := by
  unfold sDeed at h
  split at h
  · rename_i a os
    simp only [Bool.and_eq_true] at h
    obtain ⟨z, rfl⟩ := nm_str h.1
    exact ⟨z, _, rfl⟩
  · cases h
section
variable {Q : PV → Store → Prop} {E : PX → Store → Prop} {S0 : Store}
theorem state_tail {a b c : PV} (t : tyD S0 c) (q : Q (.bl (sDeeds c)) S0) :
    WS (bStTail [some (.tup [a, b, c]), none, none] S0) fun r => W (fin S0 r) Q E := by
  unfold bStTail
  obtain ⟨ty, ht⟩ := t.ty
  repeat walk_at "w"
  refine o_idxT (at2 _ _ _ _) ?_
  refine Op.of ht ?_
  by_cases hx : ∃ ds, c = .tup ds
  · obtain ⟨ds, rfl⟩ := hx
    cases ht
    repeat walk_at "w"
    refine Br.of_ff rfl ?_
    repeat walk_at "w"
    refine o_idxT (at2 _ _ _ _) ?_
    repeat walk_at "w"
    have q : Q (.bl (decide (ds.length ≤ 8) && (ds.all sDeed && decide (ds.map hdN).Nodup))) S0 := q
    refine Br.dec (fun h2 => ?_) (fun h2 => ?_)
    · repeat walk_at "w"
      refine g_keep (Kp.refl _) (by rfl) ?_
      rw [decide_eq_false (p := ds.length ≤ 8) (by omega)] at q
      exact q
    · repeat walk_at "w"
      refine o_idxT (at2 _ _ _ _) ?_
      repeat walk_at "w"
      simp only [wipeE, List.set_cons_succ, List.set_cons_zero]
      refine w_pureY (fun x => .bl (sDeed x)) trivial (fun x hx => ?_) ?_
      · refine t_n (.succ .zero) ?_
        repeat walk_at "w"
        exact is_deed_w (t.elem hx) ⟨rfl, rfl⟩
      · rw [show (ds.map fun x => PV.bl (sDeed x)) = (ds.map sDeed).map PV.bl from by rw [List.map_map]; rfl]
        refine o_all ?_
        repeat walk_at "w"
        rw [decide_eq_true (p := ds.length ≤ 8) (by omega)] at q
        have ea : (ds.map sDeed).all _root_.id = ds.all sDeed := by rw [List.all_map]; rfl
        rw [ea]
        cases hb : ds.all sDeed
        · rw [hb] at q
          repeat walk_at "w"
          exact g_keep (Kp.refl _) (by rfl) q
        · rw [hb] at q
          repeat walk_at "w"
          refine o_idxT (at2 _ _ _ _) ?_
          repeat walk_at "w"
          simp only [wipeE, List.set_cons_succ, List.set_cons_zero]
          refine w_pureY (fun x => .str (hdN x)) trivial (fun x hx => ?_) ?_
          · obtain ⟨z, b, rfl⟩ := sDeed_tup (List.all_eq_true.mp hb x hx)
            refine t_pair (.succ .zero) (.succ (.succ .zero)) ?_
            repeat walk_at "w"
            exact ⟨rfl, rfl⟩
          · rw [show (ds.map fun x => PV.str (hdN x)) = (ds.map hdN).map PV.str from by rw [List.map_map]; rfl]
            repeat walk_at "w"
            refine unlikeN_w (get_app _ _ _) (by simp; omega) ?_
            refine f_ret ?_
            exact g_keep (Kp.app _ _) (by rfl) q
  · rw [ty_notT ht (fun z h => hx ⟨z, h⟩)]
    repeat walk_at "w"
    refine g_keep (Kp.refl _) (by rfl) ?_
    have e : sDeeds c = false := by
      unfold sDeeds
      split
      · exact absurd ⟨_, rfl⟩ hx
      · rfl
    rw [e] at q; exact q
theorem ty_bool {x : PV} {t : String} (h : tyN S0 x = some t) : isI t "bool" = isBlB x := by
  cases x with
  | ref j =>
    simp only [tyN] at h
    split at h <;> first | (cases h; rfl) | cases h
  | _ => cases h; rfl
theorem is_state_w {x : PV} (t : tyD S0 x) (q : Q (.bl (sState x)) S0) : W (fnV 1 3 bIsState [x] S0) Q E := by
  rw [show fnV 1 3 bIsState [x] S0 = fin S0 (bIsState [some x, none, none] S0) from fnV_eq 1 3 _ _ _ rfl]
  refine f_body ?_
  unfold bIsState
  obtain ⟨ty, ht⟩ := t.ty
  repeat walk_at "w"
  refine Op.of ht ?_
  by_cases hx : ∃ z, x = .tup z
  · obtain ⟨z, rfl⟩ := hx
    cases ht
    repeat walk_at "w"
    refine Br.of_ff rfl ?_
    repeat walk_at "w"
    refine o_ne (eqS_int _ _ _) ?_
    repeat walk_at "w"
    by_cases hl : z.length = 3
    · obtain ⟨a, b, c, rfl⟩ : ∃ a b c, z = [a, b, c] := by
        match z, hl with
        | [a, b, c], _ => exact ⟨a, b, c, rfl⟩
      refine Br.of_ff (by simp) ?_
      repeat walk_at "w"
      refine o_idxT (at0 _ _) ?_
      repeat walk_at "w"
      refine is_name_w (t.elem (by simp)).ty ?_
      repeat walk_at "w"
      have tb : tyD S0 b := t.elem (by simp)
      have tc : tyD S0 c := t.elem (by simp)
      have q : Q (.bl (nm a && (isBlB b && sDeeds c))) S0 := q
      cases h1 : nm a
      · rw [h1] at q
        repeat walk_at "w"
        exact g_keep (Kp.refl _) (by rfl) q
      · rw [h1] at q
        repeat walk_at "w"
        refine o_idxT (at1 _ _ _) ?_
        obtain ⟨tyb, htb⟩ := tb.ty
        refine Op.of htb ?_
        rw [ty_bool htb]
        repeat walk_at "w"
        cases h2 : isBlB b
        · rw [h2] at q
          repeat walk_at "w"
          exact g_keep (Kp.refl _) (by rfl) q
        · rw [h2] at q
          refine Br.nt (s_nil (q_nx ?_))
          exact state_tail tc q
    · refine Br.of_tt (by simp; omega) ?_
      repeat walk_at "w"
      refine g_keep (Kp.refl _) (by rfl) ?_
      have e : sState (.tup z) = false := by
        unfold sState
        split
        · rename_i heq; cases heq; simp at hl
        · rfl
      rw [e] at q; exact q
  · rw [ty_notT ht (fun z h => hx ⟨z, h⟩)]
    repeat walk_at "w"
    refine g_keep (Kp.refl _) (by rfl) ?_
    have e : sState x = false := by
      unfold sState
      split
      · exact absurd ⟨_, rfl⟩ hx
      · rfl
    rw [e] at q; exact q
end
end Ev

/-! Fw26: all outs of a kind. -/
namespace Ev
open PySem PySem.Spec PyProof.Rows L2 SX
local macro_rules | `(tactic| walk_at "w") => `(tactic| first
  | (with_reducible apply s_set; focus (repeat first | exact SetR.zero | apply SetR.succ))
  | (with_reducible apply w_get; focus (repeat first | exact GetR.zero | apply GetR.succ))
  | with_reducible first
  | refine s_seqN ?_ | refine s_seq ?_ | refine q_nx ?_ | refine q_ret ?_ | refine q_brk ?_ | refine q_cnt ?_ | refine q_exc ?_
  | refine s_nil ?_ | refine s_pass ?_ | refine s_brk ?_ | refine s_cnt ?_ | refine s_expr ?_ | refine s_ret ?_ | refine s_retN ?_ | refine s_if ?_ | refine s_unp ?_ | refine s_sub ?_ | refine s_for ?_
  | refine w_c ?_ | (refine w_str ?_ ?_; decide +kernel) | refine w_bin ?_ | refine w_un ?_ | refine w_chn ?_ | refine w_bV ?_ | refine w_bBl ?_ | refine w_bAnd ?_ | refine w_bOr ?_ | refine w_bNot ?_ | refine w_bYes ?_
  | refine w_vAnd ?_ | refine w_vOr ?_ | refine w_vNot ?_ | refine w_vIf ?_ | refine w_nil ?_ | refine w_cons ?_ | refine w_tup ?_ | refine w_disp ?_ | refine w_new ?_ | refine lnew ?_ | refine w_oNone ?_ | refine w_oSome ?_ | refine w_slc ?_ | refine w_lslc ?_ | refine slcT ?_ | refine slcS ?_
  | refine w_call ?_ | refine w_callL ?_ | refine w_lcallL ?_ | refine w_lcallN ?_ | refine w_isi ?_ | refine w_app ?_ | refine w_app0 ?_ | refine w_lval ?_ | refine w_cat ?_ | refine w_eqL ?_ | refine w_lm ?_ | refine w_ext ?_ | refine w_sm ?_ | refine w_sm0 ?_ | refine w_lsm ?_ | refine w_smL ?_ | refine w_dic0 ?_ | refine w_dic1 ?_ | refine w_iV ?_ | refine w_iL ?_ | refine il_none ?_ | refine il_some ?_ | refine w_rng ?_ | refine w_comp ?_ | refine w_rev ?_ | refine w_lenSet ?_ | refine w_extV ?_
  | refine o_addI ?_ | refine o_iadd ?_ | refine o_sub ?_ | refine o_neg ?_ | refine o_ltI ?_ | refine o_le ?_ | refine o_gt ?_ | refine o_ge ?_ | refine o_is ?_ | refine o_isNot ?_ | refine o_lenT ?_ | refine o_lenF ?_ | refine o_lenS ?_ | refine o_intB ?_ | refine o_intI ?_ | refine o_max ?_ | refine o_min ?_ | refine o_tupT ?_ | refine o_eqI ?_ | refine o_eqS ?_ | refine o_eqB ?_
  | refine b_is ?_ | refine i_is ?_ | refine s_is ?_ | refine i_tup ?_ | refine i_str ?_ | refine tr_bl ?_ | refine ty_bl ?_ | refine ty_str ?_ | refine ty_tup ?_ | refine ty_int ?_ | refine k_s ?_ | refine k_i ?_
  | refine Br.tt ?_ | refine Br.ff ?_ | refine Br.nf ?_ | refine Br.nt ?_ | refine f_ret ?_ | refine f_nx ?_ | refine f_body ?_)
noncomputable def bAllOuts : TSt := (sSeq (sSet 1 (vNew (lDisp vsNil))) (sSeq (sFor (tgT (tgCons (tgN 2) (tgCons (tgN 3) (tgCons (tgN 4) tgNil)))) (iV (vBin oIdx (vVar 0) (vC (.int 1)))) (sSeq (sFor (tgT (tgCons (tgN 5) (tgCons (tgN 6) tgNil))) (iV (vVar 4)) (sSeq (sExpr (vExtV (vVar 1) (vVar 6))) sNil)) sNil)) (sSeq (sRet (vVar 1)) sNil)))
def outsOf1 : PV → List PV
  | .tup [_, .tup os] => os
  | _ => []
def outsOf2 : PV → List PV
  | .tup [_, _, .tup ds] => ds.flatMap outsOf1
  | _ => []
theorem sDeed_form {x : PV} (h : sDeed x = true) : ∃ a os, x = .tup [a, .tup os] ∧ os.length ≤ 6 := by
  unfold sDeed at h
  split at h
  · rename_i a os
    simp only [Bool.and_eq_true, decide_eq_true_eq] at h
    exact ⟨a, os, rfl, h.2.1.2⟩
  · cases h
theorem sState_form {x : PV} (h : sState x = true) : ∃ a b ds, x = .tup [a, b, .tup ds] ∧ ds.length ≤ 8 ∧ ds.all sDeed = true := by
  unfold sState at h
  split at h
  · rename_i a b c
    simp only [Bool.and_eq_true] at h
    have h := h.2.2
    unfold sDeeds at h
    split at h
    · simp only [Bool.and_eq_true, decide_eq_true_eq] at h
      exact ⟨a, b, _, rfl, h.1, h.2.1⟩
    · cases h
  · cases h
section
variable {Q : PV → Store → Prop} {E : PX → Store → Prop} {S0 : Store}
theorem all_outs_w {a : PV} {ss : List PV} (hs : ss.all sState = true) (hl : ss.length ≤ 8) (hlow : PV.lows S0.length (ss.flatMap outsOf2) = true) (q : Q (.ref S0.length) (S0 ++ [.lst (ss.flatMap outsOf2)])) : W (fnV 1 7 bAllOuts [.tup [a, .tup ss]] S0) Q E := by
  rw [show fnV 1 7 bAllOuts [.tup [a, .tup ss]] S0 = fin S0 (bAllOuts [some (.tup [a, .tup ss]), none, none, none, none, none, none] S0) from fnV_eq 1 7 _ _ _ rfl]
  refine f_body ?_
  unfold bAllOuts
  have big := sizeLine_eq
  repeat walk_at "w"
  refine ⟨Nat.zero_le _, ?_⟩
  repeat walk_at "w"
  refine o_idxT (at1 _ _ _) ?_
  repeat walk_at "w"
  refine s_loop (fun rest ρ T => ∃ (ds : List PV) (e2 e3 e4 e5 e6 : Option PV), ds ++ rest.flatMap outsOf2 = ss.flatMap outsOf2 ∧ rest.all sState = true ∧ ds.length + 48 * rest.length ≤ 400 ∧ T = S0 ++ [.lst ds] ∧ ρ = [some (.tup [a, .tup ss]), some (.ref S0.length), e2, e3, e4, e5, e6]) ⟨[], _, _, _, _, _, rfl, hs, by simp; omega, rfl, rfl⟩ (fun x rest ρ T h => ?_) (fun ρ T h => ⟨trivial, ?_⟩)
  · obtain ⟨ds, e2, e3, e4, e5, e6, hd, hr, hlen, rfl, rfl⟩ := h
    simp only [List.all_cons, Bool.and_eq_true] at hr
    simp only [List.length_cons] at hlen
    obtain ⟨p, b, us, rfl, ul, ua⟩ := sState_form hr.1
    refine ⟨trivial, t_three (.succ (.succ .zero)) (.succ (.succ (.succ .zero))) (.succ (.succ (.succ (.succ .zero)))) ?_⟩
    repeat walk_at "w"
    refine s_loop (fun rest2 ρ T => ∃ (es : List PV) (e5 e6 : Option PV), es ++ (rest2.flatMap outsOf1 ++ rest.flatMap outsOf2) = ss.flatMap outsOf2 ∧ rest2.all sDeed = true ∧ es.length + 6 * rest2.length + 48 * rest.length ≤ 400 ∧ T = S0 ++ [.lst es] ∧ ρ = [some (.tup [a, .tup ss]), some (.ref S0.length), some p, some b, some (.tup us), e5, e6]) ⟨ds, _, _, by rw [← hd]; rfl, ua, by show ds.length + 6 * us.length + 48 * rest.length ≤ 400; omega, rfl, rfl⟩ (fun y rest2 ρ T h => ?_) (fun ρ T h => ⟨trivial, ?_⟩)
    · obtain ⟨es, e5, e6, he, hr2, hl2, rfl, rfl⟩ := h
      simp only [List.all_cons, Bool.and_eq_true] at hr2
      simp only [List.length_cons] at hl2
      obtain ⟨c, os, rfl, ol⟩ := sDeed_form hr2.1
      refine ⟨trivial, t_pair (.succ (.succ (.succ (.succ (.succ .zero))))) (.succ (.succ (.succ (.succ (.succ (.succ .zero)))))) ?_⟩
      repeat walk_at "w"
      refine o_getL (get_app _ _ _) ?_
      repeat walk_at "w"
      refine extR (get_app _ _ _) (by omega) ?_
      refine ⟨es ++ os, _, _, ?_, hr2.2, by simp; omega, set_app _ _ _ _, rfl⟩
      rw [← he]; simp [outsOf1]
    · obtain ⟨es, e5, e6, he, _, hl2, rfl, rfl⟩ := h
      simp only [List.length_nil] at hl2
      exact ⟨es, _, _, _, _, _, by rw [← he]; rfl, hr.2, by omega, rfl, rfl⟩
  · obtain ⟨ds, e2, e3, e4, e5, e6, hd, _, hlen, rfl, rfl⟩ := h
    have e : ds = ss.flatMap outsOf2 := by rw [← hd]; simp
    subst e
    repeat walk_at "w"
    exact g_new (Kp.app _ _) (Nat.le_refl _) (get_app _ _ _) hlow q
end
end Ev

/-! Fw27: what a kind is, as the program looks at it (begun). -/
namespace Ev
open PySem PySem.Spec PyProof.Rows L2 SX
local macro_rules | `(tactic| walk_at "w") => `(tactic| first
  | (with_reducible apply s_set; focus (repeat first | exact SetR.zero | apply SetR.succ))
  | (with_reducible apply w_get; focus (repeat first | exact GetR.zero | apply GetR.succ))
  | with_reducible first
  | refine s_seqN ?_ | refine s_seq ?_ | refine q_nx ?_ | refine q_ret ?_ | refine q_brk ?_ | refine q_cnt ?_ | refine q_exc ?_
  | refine s_nil ?_ | refine s_pass ?_ | refine s_brk ?_ | refine s_cnt ?_ | refine s_expr ?_ | refine s_ret ?_ | refine s_retN ?_ | refine s_if ?_ | refine s_unp ?_ | refine s_sub ?_ | refine s_for ?_
  | refine w_c ?_ | (refine w_str ?_ ?_; decide +kernel) | refine w_bin ?_ | refine w_un ?_ | refine w_chn ?_ | refine w_bV ?_ | refine w_bBl ?_ | refine w_bAnd ?_ | refine w_bOr ?_ | refine w_bNot ?_ | refine w_bYes ?_
  | refine w_vAnd ?_ | refine w_vOr ?_ | refine w_vNot ?_ | refine w_vIf ?_ | refine w_nil ?_ | refine w_cons ?_ | refine w_tup ?_ | refine w_disp ?_ | refine w_new ?_ | refine lnew ?_ | refine w_oNone ?_ | refine w_oSome ?_ | refine w_slc ?_ | refine w_lslc ?_ | refine slcT ?_ | refine slcS ?_
  | refine w_call ?_ | refine w_callL ?_ | refine w_lcallL ?_ | refine w_lcallN ?_ | refine w_isi ?_ | refine w_app ?_ | refine w_app0 ?_ | refine w_lval ?_ | refine w_cat ?_ | refine w_eqL ?_ | refine w_lm ?_ | refine w_ext ?_ | refine w_sm ?_ | refine w_sm0 ?_ | refine w_lsm ?_ | refine w_smL ?_ | refine w_dic0 ?_ | refine w_dic1 ?_ | refine w_iV ?_ | refine w_iL ?_ | refine il_none ?_ | refine il_some ?_ | refine w_rng ?_ | refine w_comp ?_ | refine w_rev ?_ | refine w_lenSet ?_ | refine w_extV ?_
  | refine o_addI ?_ | refine o_iadd ?_ | refine o_sub ?_ | refine o_neg ?_ | refine o_ltI ?_ | refine o_le ?_ | refine o_gt ?_ | refine o_ge ?_ | refine o_is ?_ | refine o_isNot ?_ | refine o_lenT ?_ | refine o_lenF ?_ | refine o_lenS ?_ | refine o_intB ?_ | refine o_intI ?_ | refine o_max ?_ | refine o_min ?_ | refine o_tupT ?_ | refine o_eqI ?_ | refine o_eqS ?_ | refine o_eqB ?_
  | refine b_is ?_ | refine i_is ?_ | refine s_is ?_ | refine i_tup ?_ | refine i_str ?_ | refine tr_bl ?_ | refine ty_bl ?_ | refine ty_str ?_ | refine ty_tup ?_ | refine ty_int ?_ | refine k_s ?_ | refine k_i ?_
  | refine Br.tt ?_ | refine Br.ff ?_ | refine Br.nf ?_ | refine Br.nt ?_ | refine f_ret ?_ | refine f_nx ?_ | refine f_body ?_)
def thereOk (ns : List Str) : PV → Bool
  | .tup [_, .non, _] => true
  | .tup [_, .str z, _] => decide (z ∈ ns)
  | _ => false
def sStates (ss : List PV) : Bool := (decide (1 ≤ ss.length) && decide (ss.length ≤ 8)) && (ss.all sState && (decide (ss.map hdN).Nodup && (ss.flatMap outsOf2).all (thereOk (ss.map hdN))))
def sKind : PV → Bool
  | .tup [a, .tup ss] => nm a && sStates ss
  | _ => false
theorem sMaybe_form {x : PV} (h : sMaybe x = true) : x = .non ∨ ∃ z, x = .str z := by
  unfold sMaybe at h
  cases x with
  | non => exact .inl rfl
  | str z => exact .inr ⟨z, rfl⟩
  | _ => cases h
theorem sOut_form {x : PV} (h : sOut x = true) : ∃ z b c, x = .tup [.str z, b, c] ∧ (b = .non ∨ ∃ z, b = .str z) ∧ (c = .non ∨ ∃ z, c = .str z) := by
  unfold sOut at h
  split at h
  · rename_i a b c
    simp only [Bool.and_eq_true] at h
    obtain ⟨z, rfl⟩ := nm_str h.1
    exact ⟨z, b, c, rfl, sMaybe_form h.2.1, sMaybe_form h.2.2⟩
  · cases h
theorem sOut_dat {x : PV} (h : sOut x = true) : x.dat = true := by
  obtain ⟨z, b, c, rfl, hb, hc⟩ := sOut_form h
  rcases hb with rfl | ⟨_, rfl⟩ <;> rcases hc with rfl | ⟨_, rfl⟩ <;> rfl
theorem outs_all {ss : List PV} (h : ss.all sState = true) : ∀ o ∈ ss.flatMap outsOf2, sOut o = true := by
  intro o ho
  obtain ⟨s, hs, ho⟩ := List.mem_flatMap.mp ho
  obtain ⟨a, b, ds, rfl, _, hd⟩ := sState_form (List.all_eq_true.mp h s hs)
  obtain ⟨d, hd2, ho⟩ := List.mem_flatMap.mp ho
  have hh := List.all_eq_true.mp hd d hd2
  unfold sDeed at hh
  split at hh
  · simp only [Bool.and_eq_true] at hh
    exact List.all_eq_true.mp hh.2.2.1 o ho
  · cases hh
end Ev

/-! Fw28: is_kind, its last part. -/
namespace Ev
open PySem PySem.Spec PyProof.Rows L2 SX
local macro_rules | `(tactic| walk_at "w") => `(tactic| first
  | (with_reducible apply s_set; focus (repeat first | exact SetR.zero | apply SetR.succ))
  | (with_reducible apply w_get; focus (repeat first | exact GetR.zero | apply GetR.succ))
  | with_reducible first
  | refine s_seqN ?_ | refine s_seq ?_ | refine q_nx ?_ | refine q_ret ?_ | refine q_brk ?_ | refine q_cnt ?_ | refine q_exc ?_
  | refine s_nil ?_ | refine s_pass ?_ | refine s_brk ?_ | refine s_cnt ?_ | refine s_expr ?_ | refine s_ret ?_ | refine s_retN ?_ | refine s_if ?_ | refine s_unp ?_ | refine s_sub ?_ | refine s_for ?_
  | refine w_c ?_ | (refine w_str ?_ ?_; decide +kernel) | refine w_bin ?_ | refine w_un ?_ | refine w_chn ?_ | refine w_bV ?_ | refine w_bBl ?_ | refine w_bAnd ?_ | refine w_bOr ?_ | refine w_bNot ?_ | refine w_bYes ?_
  | refine w_vAnd ?_ | refine w_vOr ?_ | refine w_vNot ?_ | refine w_vIf ?_ | refine w_nil ?_ | refine w_cons ?_ | refine w_tup ?_ | refine w_disp ?_ | refine w_new ?_ | refine lnew ?_ | refine w_oNone ?_ | refine w_oSome ?_ | refine w_slc ?_ | refine w_lslc ?_ | refine slcT ?_ | refine slcS ?_
  | refine w_call ?_ | refine w_callL ?_ | refine w_lcallL ?_ | refine w_lcallN ?_ | refine w_isi ?_ | refine w_app ?_ | refine w_app0 ?_ | refine w_lval ?_ | refine w_cat ?_ | refine w_eqL ?_ | refine w_lm ?_ | refine w_ext ?_ | refine w_sm ?_ | refine w_sm0 ?_ | refine w_lsm ?_ | refine w_smL ?_ | refine w_dic0 ?_ | refine w_dic1 ?_ | refine w_iV ?_ | refine w_iL ?_ | refine il_none ?_ | refine il_some ?_ | refine w_rng ?_ | refine w_comp ?_ | refine w_rev ?_ | refine w_lenSet ?_ | refine w_extV ?_
  | refine o_addI ?_ | refine o_iadd ?_ | refine o_sub ?_ | refine o_neg ?_ | refine o_ltI ?_ | refine o_le ?_ | refine o_gt ?_ | refine o_ge ?_ | refine o_is ?_ | refine o_isNot ?_ | refine o_lenT ?_ | refine o_lenF ?_ | refine o_lenS ?_ | refine o_intB ?_ | refine o_intI ?_ | refine o_max ?_ | refine o_min ?_ | refine o_tupT ?_ | refine o_eqI ?_ | refine o_eqS ?_ | refine o_eqB ?_
  | refine b_is ?_ | refine i_is ?_ | refine s_is ?_ | refine i_tup ?_ | refine i_str ?_ | refine tr_bl ?_ | refine ty_bl ?_ | refine ty_str ?_ | refine ty_tup ?_ | refine ty_int ?_ | refine k_s ?_ | refine k_i ?_
  | refine Br.tt ?_ | refine Br.ff ?_ | refine Br.nf ?_ | refine Br.nt ?_ | refine f_ret ?_ | refine f_nx ?_ | refine f_body ?_)
noncomputable def bKindEnd : TSt := (sSeq (sIf (bNot (bV (vApp (fnV 1 1 bUnlikeN) (vsCons (vVar 1) vsNil)))) (sSeq (sRet (vC (.bl false))) sNil) sNil) (sSeq (sRet (vCallL fAll (lComp (tgT (tgCons (tgN 5) (tgCons (tgN 6) (tgCons (tgN 7) tgNil)))) (iV (vApp (fnV 1 7 bAllOuts) (vsCons (vVar 0) vsNil))) bYes (vOr (vBin oIs (vVar 6) (vC .non)) (vBin oIn (vVar 6) (vVar 1))) [5, 6, 7]))) sNil))
section
variable {Q : PV → Store → Prop} {E : PX → Store → Prop} {S0 : Store}
theorem kind_end {a : PV} {ss : List PV} (hs : ss.all sState = true) (hl : ss.length ≤ 8) (q : Q (.bl (decide (ss.map hdN).Nodup && (ss.flatMap outsOf2).all (thereOk (ss.map hdN)))) S0) :
    WS (bKindEnd [some (.tup [a, .tup ss]), some (.ref S0.length), none, none, none, none, none, none] (S0 ++ [.lst ((ss.map hdN).map .str)])) fun r => W (fin S0 r) Q E := by
  unfold bKindEnd
  have hlow : PV.lows (S0 ++ [PObj.lst ((ss.map hdN).map PV.str)]).length (ss.flatMap outsOf2) = true := lows_iff.mpr fun o ho => low_dat _ _ (sOut_dat (outs_all hs o ho))
  repeat walk_at "w"
  refine unlikeN_w (get_app _ _ _) (by simp; omega) ?_
  repeat walk_at "w"
  cases hn : decide (ss.map hdN).Nodup
  · rw [hn] at q
    repeat walk_at "w"
    exact g_keep (Kp.app _ _) (by rfl) q
  · rw [hn] at q
    repeat walk_at "w"
    refine all_outs_w hs hl hlow ?_
    refine i_ref (get_app _ _ _) ?_
    simp only [wipeE, List.set_cons_succ, List.set_cons_zero]
    refine w_pureY (fun x => .bl (thereOk (ss.map hdN) x)) (get_app _ _ _) (fun x hx => ?_) ?_
    · obtain ⟨z, b, c, rfl, hb, hc⟩ := sOut_form (outs_all hs x hx)
      refine t_three (.succ (.succ (.succ (.succ (.succ .zero))))) (.succ (.succ (.succ (.succ (.succ (.succ .zero)))))) (.succ (.succ (.succ (.succ (.succ (.succ (.succ .zero))))))) ?_
      repeat walk_at "w"
      rcases hb with rfl | ⟨y, rfl⟩
      · refine Br.of_tt rfl ?_
        exact ⟨rfl, rfl⟩
      · refine Br.of_ff rfl ?_
        repeat walk_at "w"
        refine o_in (in_strs (get_app_lt (get_app _ _ _)) y) ?_
        exact ⟨rfl, rfl⟩
    · rw [show ((ss.flatMap outsOf2).map fun x => PV.bl (thereOk (ss.map hdN) x)) = ((ss.flatMap outsOf2).map (thereOk (ss.map hdN))).map PV.bl from by rw [List.map_map]; rfl]
      refine o_all ?_
      repeat walk_at "w"
      have ea : ((ss.flatMap outsOf2).map (thereOk (ss.map hdN))).all _root_.id = (ss.flatMap outsOf2).all (thereOk (ss.map hdN)) := by rw [List.all_map]; rfl
      rw [ea]
      exact g_keep ((Kp.app _ _).trans (Kp.app _ _)) (by rfl) q
end
end Ev

/-! Fw29: is_kind, its middle. -/
namespace Ev
open PySem PySem.Spec PyProof.Rows L2 SX
local macro_rules | `(tactic| walk_at "w") => `(tactic| first
  | (with_reducible apply s_set; focus (repeat first | exact SetR.zero | apply SetR.succ))
  | (with_reducible apply w_get; focus (repeat first | exact GetR.zero | apply GetR.succ))
  | with_reducible first
  | refine s_seqN ?_ | refine s_seq ?_ | refine q_nx ?_ | refine q_ret ?_ | refine q_brk ?_ | refine q_cnt ?_ | refine q_exc ?_
  | refine s_nil ?_ | refine s_pass ?_ | refine s_brk ?_ | refine s_cnt ?_ | refine s_expr ?_ | refine s_ret ?_ | refine s_retN ?_ | refine s_if ?_ | refine s_unp ?_ | refine s_sub ?_ | refine s_for ?_
  | refine w_c ?_ | (refine w_str ?_ ?_; decide +kernel) | refine w_bin ?_ | refine w_un ?_ | refine w_chn ?_ | refine w_bV ?_ | refine w_bBl ?_ | refine w_bAnd ?_ | refine w_bOr ?_ | refine w_bNot ?_ | refine w_bYes ?_
  | refine w_vAnd ?_ | refine w_vOr ?_ | refine w_vNot ?_ | refine w_vIf ?_ | refine w_nil ?_ | refine w_cons ?_ | refine w_tup ?_ | refine w_disp ?_ | refine w_new ?_ | refine lnew ?_ | refine w_oNone ?_ | refine w_oSome ?_ | refine w_slc ?_ | refine w_lslc ?_ | refine slcT ?_ | refine slcS ?_
  | refine w_call ?_ | refine w_callL ?_ | refine w_lcallL ?_ | refine w_lcallN ?_ | refine w_isi ?_ | refine w_app ?_ | refine w_app0 ?_ | refine w_lval ?_ | refine w_cat ?_ | refine w_eqL ?_ | refine w_lm ?_ | refine w_ext ?_ | refine w_sm ?_ | refine w_sm0 ?_ | refine w_lsm ?_ | refine w_smL ?_ | refine w_dic0 ?_ | refine w_dic1 ?_ | refine w_iV ?_ | refine w_iL ?_ | refine il_none ?_ | refine il_some ?_ | refine w_rng ?_ | refine w_comp ?_ | refine w_rev ?_ | refine w_lenSet ?_ | refine w_extV ?_
  | refine o_addI ?_ | refine o_iadd ?_ | refine o_sub ?_ | refine o_neg ?_ | refine o_ltI ?_ | refine o_le ?_ | refine o_gt ?_ | refine o_ge ?_ | refine o_is ?_ | refine o_isNot ?_ | refine o_lenT ?_ | refine o_lenF ?_ | refine o_lenS ?_ | refine o_intB ?_ | refine o_intI ?_ | refine o_max ?_ | refine o_min ?_ | refine o_tupT ?_ | refine o_eqI ?_ | refine o_eqS ?_ | refine o_eqB ?_
  | refine b_is ?_ | refine i_is ?_ | refine s_is ?_ | refine i_tup ?_ | refine i_str ?_ | refine tr_bl ?_ | refine ty_bl ?_ | refine ty_str ?_ | refine ty_tup ?_ | refine ty_int ?_ | refine k_s ?_ | refine k_i ?_
  | refine Br.tt ?_ | refine Br.ff ?_ | refine Br.nf ?_ | refine Br.nt ?_ | refine f_ret ?_ | refine f_nx ?_ | refine f_body ?_)
noncomputable def bKindMid : TSt := (sSeq (sIf (bOr (bNot (bBl (vChn oLe oLe (vC (.int 1)) (vCall fLen (vsCons (vBin oIdx (vVar 0) (vC (.int 1))) vsNil)) (vC (.int 8))))) (bNot (bV (vCallL fAll (lComp (tgN 2) (iV (vBin oIdx (vVar 0) (vC (.int 1)))) bYes (vApp (fnV 1 3 bIsState) (vsCons (vVar 2) vsNil)) [2]))))) (sSeq (sRet (vC (.bl false))) sNil) sNil) (sSeq (sSet 1 (vNew (lComp (tgT (tgCons (tgN 2) (tgCons (tgN 3) (tgCons (tgN 4) tgNil)))) (iV (vBin oIdx (vVar 0) (vC (.int 1)))) bYes (vVar 2) [2, 3, 4]))) bKindEnd))
section
variable {Q : PV → Store → Prop} {E : PX → Store → Prop} {S0 : Store}
theorem kind_mid {a : PV} {ss : List PV} (t : tyD S0 (.tup ss)) (q : Q (.bl (sStates ss)) S0) :
    WS (bKindMid [some (.tup [a, .tup ss]), none, none, none, none, none, none, none] S0) fun r => W (fin S0 r) Q E := by
  unfold bKindMid
  unfold sStates at q
  repeat walk_at "w"
  refine o_idxT (at1 _ _ _) ?_
  repeat walk_at "w"
  refine Br.dec (fun h1 => ?_) (fun h1 => ?_)
  · repeat walk_at "w"
    refine Br.ndec (fun h2 => ?_) (fun h2 => ?_)
    · repeat walk_at "w"
      refine g_keep (Kp.refl _) (by rfl) ?_
      rw [decide_eq_false (p := ss.length ≤ 8) (by omega)] at q
      simpa using q
    · repeat walk_at "w"
      refine o_idxT (at1 _ _ _) ?_
      repeat walk_at "w"
      simp only [wipeE, List.set_cons_succ, List.set_cons_zero]
      refine w_pureY (fun x => .bl (sState x)) trivial (fun x hx => ?_) ?_
      · refine t_n (.succ (.succ .zero)) ?_
        repeat walk_at "w"
        exact is_state_w (t.elem hx) ⟨rfl, rfl⟩
      · rw [show (ss.map fun x => PV.bl (sState x)) = (ss.map sState).map PV.bl from by rw [List.map_map]; rfl]
        refine o_all ?_
        repeat walk_at "w"
        rw [decide_eq_true (p := 1 ≤ ss.length) (by omega), decide_eq_true (p := ss.length ≤ 8) (by omega)] at q
        have ea : (ss.map sState).all _root_.id = ss.all sState := by rw [List.all_map]; rfl
        rw [ea]
        cases hb : ss.all sState
        · rw [hb] at q
          repeat walk_at "w"
          exact g_keep (Kp.refl _) (by rfl) q
        · rw [hb] at q
          repeat walk_at "w"
          refine o_idxT (at1 _ _ _) ?_
          repeat walk_at "w"
          simp only [wipeE, List.set_cons_succ, List.set_cons_zero]
          refine w_pureY (fun x => .str (hdN x)) trivial (fun x hx => ?_) ?_
          · have hx2 := List.all_eq_true.mp hb x hx
            obtain ⟨p, b, ds, rfl, _, _⟩ := sState_form hx2
            have hp : nm p = true := by
              unfold sState at hx2
              simp only [Bool.and_eq_true] at hx2
              exact hx2.1
            obtain ⟨z, rfl⟩ := nm_str hp
            refine t_three (.succ (.succ .zero)) (.succ (.succ (.succ .zero))) (.succ (.succ (.succ (.succ .zero)))) ?_
            repeat walk_at "w"
            exact ⟨rfl, rfl⟩
          · rw [show (ss.map fun x => PV.str (hdN x)) = (ss.map hdN).map PV.str from by rw [List.map_map]; rfl]
            refine lnew (q_nx ?_)
            exact kind_end hb (by omega) q
  · repeat walk_at "w"
    refine g_keep (Kp.refl _) (by rfl) ?_
    rw [decide_eq_false (p := 1 ≤ ss.length) (by omega)] at q
    simpa using q
end
end Ev

/-! Fw30: is_kind. -/
namespace Ev
open PySem PySem.Spec PyProof.Rows L2 SX
local macro_rules | `(tactic| walk_at "w") => `(tactic| first
  | (with_reducible apply s_set; focus (repeat first | exact SetR.zero | apply SetR.succ))
  | (with_reducible apply w_get; focus (repeat first | exact GetR.zero | apply GetR.succ))
  | with_reducible first
  | refine s_seqN ?_ | refine s_seq ?_ | refine q_nx ?_ | refine q_ret ?_ | refine q_brk ?_ | refine q_cnt ?_ | refine q_exc ?_
  | refine s_nil ?_ | refine s_pass ?_ | refine s_brk ?_ | refine s_cnt ?_ | refine s_expr ?_ | refine s_ret ?_ | refine s_retN ?_ | refine s_if ?_ | refine s_unp ?_ | refine s_sub ?_ | refine s_for ?_
  | refine w_c ?_ | (refine w_str ?_ ?_; decide +kernel) | refine w_bin ?_ | refine w_un ?_ | refine w_chn ?_ | refine w_bV ?_ | refine w_bBl ?_ | refine w_bAnd ?_ | refine w_bOr ?_ | refine w_bNot ?_ | refine w_bYes ?_
  | refine w_vAnd ?_ | refine w_vOr ?_ | refine w_vNot ?_ | refine w_vIf ?_ | refine w_nil ?_ | refine w_cons ?_ | refine w_tup ?_ | refine w_disp ?_ | refine w_new ?_ | refine lnew ?_ | refine w_oNone ?_ | refine w_oSome ?_ | refine w_slc ?_ | refine w_lslc ?_ | refine slcT ?_ | refine slcS ?_
  | refine w_call ?_ | refine w_callL ?_ | refine w_lcallL ?_ | refine w_lcallN ?_ | refine w_isi ?_ | refine w_app ?_ | refine w_app0 ?_ | refine w_lval ?_ | refine w_cat ?_ | refine w_eqL ?_ | refine w_lm ?_ | refine w_ext ?_ | refine w_sm ?_ | refine w_sm0 ?_ | refine w_lsm ?_ | refine w_smL ?_ | refine w_dic0 ?_ | refine w_dic1 ?_ | refine w_iV ?_ | refine w_iL ?_ | refine il_none ?_ | refine il_some ?_ | refine w_rng ?_ | refine w_comp ?_ | refine w_rev ?_ | refine w_lenSet ?_ | refine w_extV ?_
  | refine o_addI ?_ | refine o_iadd ?_ | refine o_sub ?_ | refine o_neg ?_ | refine o_ltI ?_ | refine o_le ?_ | refine o_gt ?_ | refine o_ge ?_ | refine o_is ?_ | refine o_isNot ?_ | refine o_lenT ?_ | refine o_lenF ?_ | refine o_lenS ?_ | refine o_intB ?_ | refine o_intI ?_ | refine o_max ?_ | refine o_min ?_ | refine o_tupT ?_ | refine o_eqI ?_ | refine o_eqS ?_ | refine o_eqB ?_
  | refine b_is ?_ | refine i_is ?_ | refine s_is ?_ | refine i_tup ?_ | refine i_str ?_ | refine tr_bl ?_ | refine ty_bl ?_ | refine ty_str ?_ | refine ty_tup ?_ | refine ty_int ?_ | refine k_s ?_ | refine k_i ?_
  | refine Br.tt ?_ | refine Br.ff ?_ | refine Br.nf ?_ | refine Br.nt ?_ | refine f_ret ?_ | refine f_nx ?_ | refine f_body ?_)
noncomputable def bIsKind : TSt := (sSeq (sIf (bOr (bNot (bV (vIsi "tuple" (vVar 0)))) (bOr (bBl (vBin oNe (vCall fLen (vsCons (vVar 0) vsNil)) (vC (.int 2)))) (bOr (bNot (bV (vApp (fnV 1 2 bIsName) (vsCons (vBin oIdx (vVar 0) (vC (.int 0))) vsNil)))) (bNot (bV (vIsi "tuple" (vBin oIdx (vVar 0) (vC (.int 1))))))))) (sSeq (sRet (vC (.bl false))) sNil) sNil) bKindMid)
section
variable {Q : PV → Store → Prop} {E : PX → Store → Prop} {S0 : Store}
theorem is_kind_w {x : PV} (t : tyD S0 x) (q : Q (.bl (sKind x)) S0) : W (fnV 1 8 bIsKind [x] S0) Q E := by
  rw [show fnV 1 8 bIsKind [x] S0 = fin S0 (bIsKind [some x, none, none, none, none, none, none, none] S0) from fnV_eq 1 8 _ _ _ rfl]
  refine f_body ?_
  unfold bIsKind
  obtain ⟨ty, ht⟩ := t.ty
  repeat walk_at "w"
  refine Op.of ht ?_
  by_cases hx : ∃ z, x = .tup z
  · obtain ⟨z, rfl⟩ := hx
    cases ht
    repeat walk_at "w"
    refine Br.of_ff rfl ?_
    repeat walk_at "w"
    refine o_ne (eqS_int _ _ _) ?_
    repeat walk_at "w"
    by_cases hl : z.length = 2
    · obtain ⟨a, b, rfl⟩ : ∃ a b, z = [a, b] := by
        match z, hl with
        | [a, b], _ => exact ⟨a, b, rfl⟩
      refine Br.of_ff (by simp) ?_
      repeat walk_at "w"
      refine o_idxT (at0 _ _) ?_
      repeat walk_at "w"
      refine is_name_w (t.elem (by simp)).ty ?_
      repeat walk_at "w"
      have tb : tyD S0 b := t.elem (by simp)
      cases h1 : nm a
      · repeat walk_at "w"
        refine g_keep (Kp.refl _) (by rfl) ?_
        have e : sKind (.tup [a, b]) = false := by
          unfold sKind
          split
          · rename_i heq; cases heq; rw [h1]; rfl
          · rfl
        rw [e] at q; exact q
      · repeat walk_at "w"
        refine o_idxT (at1 _ _ _) ?_
        obtain ⟨tyb, htb⟩ := tb.ty
        refine Op.of htb ?_
        repeat walk_at "w"
        by_cases hb : ∃ os, b = .tup os
        · obtain ⟨os, rfl⟩ := hb
          cases htb
          refine Br.of_ff rfl ?_
          refine s_nil (q_nx ?_)
          have e : sKind (.tup [a, .tup os]) = sStates os := by
            show (nm a && _) = _
            rw [h1, Bool.true_and]
          rw [e] at q
          exact kind_mid tb q
        · rw [ty_notT htb (fun z h => hb ⟨z, h⟩)]
          repeat walk_at "w"
          refine g_keep (Kp.refl _) (by rfl) ?_
          have e : sKind (.tup [a, b]) = false := by
            unfold sKind
            split
            · rename_i heq; cases heq; exact absurd ⟨_, rfl⟩ hb
            · rfl
          rw [e] at q; exact q
    · refine Br.of_tt (by simp; omega) ?_
      repeat walk_at "w"
      refine g_keep (Kp.refl _) (by rfl) ?_
      have e : sKind (.tup z) = false := by
        unfold sKind
        split
        · rename_i heq; cases heq; simp at hl
        · rfl
      rw [e] at q; exact q
  · rw [ty_notT ht (fun z h => hx ⟨z, h⟩)]
    repeat walk_at "w"
    refine g_keep (Kp.refl _) (by rfl) ?_
    have e : sKind x = false := by
      unfold sKind
      split
      · exact absurd ⟨_, rfl⟩ hx
      · rfl
    rw [e] at q; exact q
end
end Ev

/-! Fw31: is_book. -/
namespace Ev
open PySem PySem.Spec PyProof.Rows L2 SX
local macro_rules | `(tactic| walk_at "w") => `(tactic| first
  | (with_reducible apply s_set; focus (repeat first | exact SetR.zero | apply SetR.succ))
  | (with_reducible apply w_get; focus (repeat first | exact GetR.zero | apply GetR.succ))
  | with_reducible first
  | refine s_seqN ?_ | refine s_seq ?_ | refine q_nx ?_ | refine q_ret ?_ | refine q_brk ?_ | refine q_cnt ?_ | refine q_exc ?_
  | refine s_nil ?_ | refine s_pass ?_ | refine s_brk ?_ | refine s_cnt ?_ | refine s_expr ?_ | refine s_ret ?_ | refine s_retN ?_ | refine s_if ?_ | refine s_unp ?_ | refine s_sub ?_ | refine s_for ?_
  | refine w_c ?_ | (refine w_str ?_ ?_; decide +kernel) | refine w_bin ?_ | refine w_un ?_ | refine w_chn ?_ | refine w_bV ?_ | refine w_bBl ?_ | refine w_bAnd ?_ | refine w_bOr ?_ | refine w_bNot ?_ | refine w_bYes ?_
  | refine w_vAnd ?_ | refine w_vOr ?_ | refine w_vNot ?_ | refine w_vIf ?_ | refine w_nil ?_ | refine w_cons ?_ | refine w_tup ?_ | refine w_disp ?_ | refine w_new ?_ | refine lnew ?_ | refine w_oNone ?_ | refine w_oSome ?_ | refine w_slc ?_ | refine w_lslc ?_ | refine slcT ?_ | refine slcS ?_
  | refine w_call ?_ | refine w_callL ?_ | refine w_lcallL ?_ | refine w_lcallN ?_ | refine w_isi ?_ | refine w_app ?_ | refine w_app0 ?_ | refine w_lval ?_ | refine w_cat ?_ | refine w_eqL ?_ | refine w_lm ?_ | refine w_ext ?_ | refine w_sm ?_ | refine w_sm0 ?_ | refine w_lsm ?_ | refine w_smL ?_ | refine w_dic0 ?_ | refine w_dic1 ?_ | refine w_iV ?_ | refine w_iL ?_ | refine il_none ?_ | refine il_some ?_ | refine w_rng ?_ | refine w_comp ?_ | refine w_rev ?_ | refine w_lenSet ?_ | refine w_extV ?_
  | refine o_addI ?_ | refine o_iadd ?_ | refine o_sub ?_ | refine o_neg ?_ | refine o_ltI ?_ | refine o_le ?_ | refine o_gt ?_ | refine o_ge ?_ | refine o_is ?_ | refine o_isNot ?_ | refine o_lenT ?_ | refine o_lenF ?_ | refine o_lenS ?_ | refine o_intB ?_ | refine o_intI ?_ | refine o_max ?_ | refine o_min ?_ | refine o_tupT ?_ | refine o_eqI ?_ | refine o_eqS ?_ | refine o_eqB ?_
  | refine b_is ?_ | refine i_is ?_ | refine s_is ?_ | refine i_tup ?_ | refine i_str ?_ | refine tr_bl ?_ | refine ty_bl ?_ | refine ty_str ?_ | refine ty_tup ?_ | refine ty_int ?_ | refine k_s ?_ | refine k_i ?_
  | refine Br.tt ?_ | refine Br.ff ?_ | refine Br.nf ?_ | refine Br.nt ?_ | refine f_ret ?_ | refine f_nx ?_ | refine f_body ?_)
noncomputable def bIsBook : TSt := (sSeq (sIf (bOr (bNot (bV (vIsi "tuple" (vVar 0)))) (bOr (bNot (bBl (vChn oLe oLe (vC (.int 1)) (vCall fLen (vsCons (vVar 0) vsNil)) (vC (.int 6))))) (bNot (bV (vCallL fAll (lComp (tgN 2) (iV (vVar 0)) bYes (vApp (fnV 1 8 bIsKind) (vsCons (vVar 2) vsNil)) [2])))))) (sSeq (sRet (vC (.bl false))) sNil) sNil) (sSeq (sSet 1 (vNew (lComp (tgT (tgCons (tgN 3) (tgCons (tgN 4) tgNil))) (iV (vVar 0)) bYes (vVar 3) [3, 4]))) (sSeq (sIf (bNot (bV (vApp (fnV 1 1 bUnlikeN) (vsCons (vVar 1) vsNil)))) (sSeq (sRet (vC (.bl false))) sNil) sNil) (sSeq (sFor (tgN 2) (iV (vVar 0)) (sSeq (sIf (bNot (bV (vCallL fAll (lComp (tgT (tgCons (tgN 5) (tgCons (tgN 6) (tgCons (tgN 7) tgNil)))) (iV (vApp (fnV 1 7 bAllOuts) (vsCons (vVar 2) vsNil))) bYes (vOr (vBin oIs (vVar 7) (vC .non)) (vBin oIn (vVar 7) (vVar 1))) [5, 6, 7])))) (sSeq (sRet (vC (.bl false))) sNil) sNil) sNil)) (sSeq (sRet (vC (.bl true))) sNil)))))
def madeOk (ns : List Str) : PV → Bool
  | .tup [_, _, .non] => true
  | .tup [_, _, .str z] => decide (z ∈ ns)
  | _ => false
def outsOf3 : PV → List PV
  | .tup [_, .tup ss] => ss.flatMap outsOf2
  | _ => []
theorem sKind_form {x : PV} (h : sKind x = true) : ∃ z ss, x = .tup [.str z, .tup ss] ∧ ss.length ≤ 8 ∧ ss.all sState = true := by
  unfold sKind at h
  split at h
  · rename_i a ss
    simp only [Bool.and_eq_true] at h
    obtain ⟨z, rfl⟩ := nm_str h.1
    have h := h.2
    unfold sStates at h
    simp only [Bool.and_eq_true, decide_eq_true_eq] at h
    exact ⟨z, ss, rfl, h.1.2, h.2.1⟩
  · cases h
section
variable {Q : PV → Store → Prop} {E : PX → Store → Prop} {S0 : Store}
/-- a book that is one -/
theorem is_book_true {ks : List PV} (t : tyD S0 (.tup ks)) (h1 : 1 ≤ ks.length) (h2 : ks.length ≤ 6) (hk : ks.all sKind = true) (nd : (ks.map hdN).Nodup) (hm : ∀ k ∈ ks, (outsOf3 k).all (madeOk (ks.map hdN)) = true) (q : Q (.bl true) S0) : W (fnV 1 8 bIsBook [.tup ks] S0) Q E := by
  rw [show fnV 1 8 bIsBook [.tup ks] S0 = fin S0 (bIsBook [some (.tup ks), none, none, none, none, none, none, none] S0) from fnV_eq 1 8 _ _ _ rfl]
  refine f_body ?_
  unfold bIsBook
  repeat walk_at "w"
  refine Br.of_ff rfl ?_
  repeat walk_at "w"
  refine Br.of_tt (by simp; omega) ?_
  repeat walk_at "w"
  refine Br.of_ff (by simp; omega) ?_
  repeat walk_at "w"
  simp only [wipeE, List.set_cons_succ, List.set_cons_zero]
  refine w_pureY (fun x => .bl (sKind x)) trivial (fun x hx => ?_) ?_
  · refine t_n (.succ (.succ .zero)) ?_
    repeat walk_at "w"
    exact is_kind_w (t.elem hx) ⟨rfl, rfl⟩
  rw [show (ks.map fun x => PV.bl (sKind x)) = (ks.map sKind).map PV.bl from by rw [List.map_map]; rfl]
  refine o_all ?_
  repeat walk_at "w"
  rw [show (ks.map sKind).all _root_.id = true from by rw [List.all_map]; exact hk]
  repeat walk_at "w"
  simp only [wipeE, List.set_cons_succ, List.set_cons_zero]
  refine w_pureY (fun x => .str (hdN x)) trivial (fun x hx => ?_) ?_
  · obtain ⟨z, ss, rfl, _, _⟩ := sKind_form (List.all_eq_true.mp hk x hx)
    refine t_pair (.succ (.succ (.succ .zero))) (.succ (.succ (.succ (.succ .zero)))) ?_
    repeat walk_at "w"
    exact ⟨rfl, rfl⟩
  rw [show (ks.map fun x => PV.str (hdN x)) = (ks.map hdN).map PV.str from by rw [List.map_map]; rfl]
  repeat walk_at "w"
  refine unlikeN_w (get_app _ _ _) (by simp; omega) ?_
  rw [decide_eq_true nd]
  repeat walk_at "w"
  refine s_loop (fun rest ρ T => (Kp S0 T ∧ T[S0.length]? = some (.lst ((ks.map hdN).map .str))) ∧ (∀ k ∈ rest, k ∈ ks) ∧ ∃ e2, ρ = [some (.tup ks), some (.ref S0.length), e2, none, none, none, none, none]) ⟨⟨Kp.app _ _, get_app _ _ _⟩, fun k h => h, _, rfl⟩ (fun x rest ρ T h => ?_) (fun ρ T h => ⟨trivial, ?_⟩)
  · obtain ⟨⟨KT, hT⟩, hin, e2, rfl⟩ := h
    have hxk := hin x (by simp)
    obtain ⟨z, ss, rfl, sl, sa⟩ := sKind_form (List.all_eq_true.mp hk x hxk)
    have hmx : (ss.flatMap outsOf2).all (madeOk (ks.map hdN)) = true := hm _ hxk
    refine ⟨trivial, t_n (.succ (.succ .zero)) ?_⟩
    repeat walk_at "w"
    refine all_outs_w sa sl (lows_iff.mpr fun o ho => low_dat _ _ (sOut_dat (outs_all sa o ho))) ?_
    refine i_ref (get_app _ _ _) ?_
    simp only [wipeE, List.set_cons_succ, List.set_cons_zero]
    refine w_pureY (fun x => .bl (madeOk (ks.map hdN) x)) (get_app _ _ _) (fun x hx => ?_) ?_
    · obtain ⟨u, b, c, rfl, hb, hc⟩ := sOut_form (outs_all sa x hx)
      refine t_three (.succ (.succ (.succ (.succ (.succ .zero))))) (.succ (.succ (.succ (.succ (.succ (.succ .zero)))))) (.succ (.succ (.succ (.succ (.succ (.succ (.succ .zero))))))) ?_
      repeat walk_at "w"
      rcases hc with rfl | ⟨y, rfl⟩
      · refine Br.of_tt rfl ?_
        exact ⟨rfl, rfl⟩
      · refine Br.of_ff rfl ?_
        repeat walk_at "w"
        refine o_in (in_strs (get_app_lt hT) y) ?_
        exact ⟨rfl, rfl⟩
    · rw [show ((ss.flatMap outsOf2).map fun x => PV.bl (madeOk (ks.map hdN) x)) = ((ss.flatMap outsOf2).map (madeOk (ks.map hdN))).map PV.bl from by rw [List.map_map]; rfl]
      refine o_all ?_
      repeat walk_at "w"
      rw [show ((ss.flatMap outsOf2).map (madeOk (ks.map hdN))).all _root_.id = true from by rw [List.all_map]; exact hmx]
      repeat walk_at "w"
      exact ⟨⟨KT.trans (Kp.app _ _), get_app_lt hT⟩, fun k h => hin k (by simp [h]), _, rfl⟩
  · obtain ⟨⟨KT, hT⟩, _, e2, rfl⟩ := h
    repeat walk_at "w"
    exact g_keep KT (by rfl) q
end
end Ev

/-! Fw32: what the program tells of a kind. -/
namespace Ev
open PySem PySem.Spec PyProof.Rows L2 SX
local macro_rules | `(tactic| walk_at "w") => `(tactic| first
  | (with_reducible apply s_set; focus (repeat first | exact SetR.zero | apply SetR.succ))
  | (with_reducible apply w_get; focus (repeat first | exact GetR.zero | apply GetR.succ))
  | with_reducible first
  | refine s_seqN ?_ | refine s_seq ?_ | refine q_nx ?_ | refine q_ret ?_ | refine q_brk ?_ | refine q_cnt ?_ | refine q_exc ?_
  | refine s_nil ?_ | refine s_pass ?_ | refine s_brk ?_ | refine s_cnt ?_ | refine s_expr ?_ | refine s_ret ?_ | refine s_retN ?_ | refine s_if ?_ | refine s_unp ?_ | refine s_sub ?_ | refine s_for ?_
  | refine w_c ?_ | (refine w_str ?_ ?_; decide +kernel) | refine w_bin ?_ | refine w_un ?_ | refine w_chn ?_ | refine w_bV ?_ | refine w_bBl ?_ | refine w_bAnd ?_ | refine w_bOr ?_ | refine w_bNot ?_ | refine w_bYes ?_
  | refine w_vAnd ?_ | refine w_vOr ?_ | refine w_vNot ?_ | refine w_vIf ?_ | refine w_nil ?_ | refine w_cons ?_ | refine w_tup ?_ | refine w_disp ?_ | refine w_new ?_ | refine lnew ?_ | refine w_oNone ?_ | refine w_oSome ?_ | refine w_slc ?_ | refine w_lslc ?_ | refine slcT ?_ | refine slcS ?_
  | refine w_call ?_ | refine w_callL ?_ | refine w_lcallL ?_ | refine w_lcallN ?_ | refine w_isi ?_ | refine w_app ?_ | refine w_app0 ?_ | refine w_lval ?_ | refine w_cat ?_ | refine w_eqL ?_ | refine w_lm ?_ | refine w_ext ?_ | refine w_sm ?_ | refine w_sm0 ?_ | refine w_lsm ?_ | refine w_smL ?_ | refine w_dic0 ?_ | refine w_dic1 ?_ | refine w_iV ?_ | refine w_iL ?_ | refine il_none ?_ | refine il_some ?_ | refine w_rng ?_ | refine w_comp ?_ | refine w_rev ?_ | refine w_lenSet ?_ | refine w_extV ?_
  | refine o_addI ?_ | refine o_iadd ?_ | refine o_sub ?_ | refine o_neg ?_ | refine o_ltI ?_ | refine o_le ?_ | refine o_gt ?_ | refine o_ge ?_ | refine o_is ?_ | refine o_isNot ?_ | refine o_lenT ?_ | refine o_lenF ?_ | refine o_lenS ?_ | refine o_intB ?_ | refine o_intI ?_ | refine o_max ?_ | refine o_min ?_ | refine o_tupT ?_ | refine o_eqI ?_ | refine o_eqS ?_ | refine o_eqB ?_
  | refine b_is ?_ | refine i_is ?_ | refine s_is ?_ | refine i_tup ?_ | refine i_str ?_ | refine tr_bl ?_ | refine ty_bl ?_ | refine ty_str ?_ | refine ty_tup ?_ | refine ty_int ?_ | refine k_s ?_ | refine k_i ?_
  | refine Br.tt ?_ | refine Br.ff ?_ | refine Br.nf ?_ | refine Br.nt ?_ | refine f_ret ?_ | refine f_nx ?_ | refine f_body ?_)
noncomputable def bFirst : TSt :=   (sSeq (sRet (vBin oIdx (vBin oIdx (vBin oIdx (vVar 0) (vC (.int 1))) (vC (.int 0))) (vC (.int 0)))) sNil)
noncomputable def bStateOf : TSt :=   (sSeq (sFor (tgN 2) (iV (vBin oIdx (vVar 0) (vC (.int 1)))) (sSeq (sIf (bBl (vBin oEq (vBin oIdx (vVar 2) (vC (.int 0))) (vVar 1))) (sSeq (sRet (vVar 2)) sNil) sNil) sNil)) (sSeq (sRet (vTup (vsCons (vVar 1) (vsCons (vC (.bl false)) (vsCons (vTup vsNil) vsNil))))) sNil))
noncomputable def bMayLeft : TSt :=   (sSeq (sRet (vBin oIdx (vApp (fnV 2 3 bStateOf) (vsCons (vVar 0) (vsCons (vVar 1) vsNil))) (vC (.int 1)))) sNil)
noncomputable def bDeedsOf : TSt :=   (sSeq (sRet (vBin oIdx (vApp (fnV 2 3 bStateOf) (vsCons (vVar 0) (vsCons (vVar 1) vsNil))) (vC (.int 2)))) sNil)
noncomputable def bOutsOf : TSt :=   (sSeq (sFor (tgT (tgCons (tgN 3) (tgCons (tgN 4) tgNil))) (iV (vApp (fnV 2 2 bDeedsOf) (vsCons (vVar 0) (vsCons (vVar 1) vsNil)))) (sSeq (sIf (bBl (vBin oEq (vVar 3) (vVar 2))) (sSeq (sRet (vVar 4)) sNil) sNil) sNil)) (sSeq (sRet (vTup vsNil)) sNil))
noncomputable def bOnlyLooks : TSt :=   (sSeq (sSet 3 (vApp (fnV 3 5 bOutsOf) (vsCons (vVar 0) (vsCons (vVar 1) (vsCons (vVar 2) vsNil))))) (sSeq (sRet (vAnd (vBin oNe (vVar 3) (vTup vsNil)) (vCallL fAll (lComp (tgT (tgCons (tgN 4) (tgCons (tgN 5) (tgCons (tgN 6) tgNil)))) (iV (vVar 3)) bYes (vAnd (vBin oEq (vVar 5) (vVar 1)) (vBin oIs (vVar 6) (vC .non))) [4, 5, 6])))) sNil))
def stOf (sts : List State) (z : Str) : State := (sts.find? fun s => s.1 == z).getD (z, false, [])
def outsOf (ds : List Deed) (d : Str) : List Out := ((ds.find? fun s => s.1 == d).map (·.2)).getD []
def looks (z : Str) (os : List Out) : Bool := !os.isEmpty && os.all fun o => o.2.1 == some z && o.2.2.isNone
section
variable {n : Nat} {Q : PV → Store → Prop} {E : PX → Store → Prop} {S0 : Store} {nm z d : Str} {sts : List State}
theorem first_state_w {s : State} (q : Q (.str s.1) S0) : W (fnV 1 1 bFirst [eK nm (s :: sts)] S0) Q E := by
  rw [show fnV 1 1 bFirst [eK nm (s :: sts)] S0 = fin S0 (bFirst [some (eK nm (s :: sts))] S0) from fnV_eq 1 1 _ _ _ rfl]
  refine f_body ?_
  unfold bFirst eK
  repeat walk_at "w"
  refine o_idxT (at1 _ _ _) ?_
  repeat walk_at "w"
  refine o_idxT (at0 (eSt s) _) ?_
  repeat walk_at "w"
  refine o_idxT (at0 (PV.str s.1) _) ?_
  repeat walk_at "w"
  exact g_keep (Kp.refl _) (by rfl) q
theorem state_of_w (q : Q (eSt (stOf sts z)) S0) : W (fnV 2 3 bStateOf [eK nm sts, .str z] S0) Q E := by
  rw [show fnV 2 3 bStateOf [eK nm sts, .str z] S0 = fin S0 (bStateOf [some (eK nm sts), some (.str z), none] S0) from fnV_eq 2 3 _ _ _ rfl]
  refine f_body ?_
  unfold bStateOf
  repeat walk_at "w"
  unfold eK
  refine o_idxT (at1 _ _ _) ?_
  repeat walk_at "w"
  refine s_loop (fun rest ρ T => T = S0 ∧ ∃ (ss : List State) (e2 : Option PV), rest = ss.map eSt ∧ stOf ss z = stOf sts z ∧ ρ = [some (eK nm sts), some (.str z), e2]) ⟨rfl, sts, _, rfl, rfl, rfl⟩ (fun x rest ρ T h => ?_) (fun ρ T h => ⟨trivial, ?_⟩)
  · obtain ⟨rfl, ss, e2, hr, hs, rfl⟩ := h
    cases ss with
    | nil => cases hr
    | cons s ss =>
      simp only [List.map_cons, List.cons.injEq] at hr
      obtain ⟨rfl, rfl⟩ := hr
      refine ⟨trivial, t_n (.succ (.succ .zero)) ?_⟩
      repeat walk_at "w"
      refine o_idxT (at0 (PV.str s.1) _) ?_
      repeat walk_at "w"
      cases hb : s.1 == z
      · repeat walk_at "w"
        refine ⟨rfl, ss, _, rfl, ?_, rfl⟩
        rw [← hs]
        unfold stOf
        rw [List.find?_cons, hb]
      · repeat walk_at "w"
        have e : stOf (s :: ss) z = s := by
          unfold stOf
          rw [List.find?_cons, hb]; rfl
        rw [← hs, e] at q
        exact g_keep (Kp.refl _) (low_dat _ _ (dat_St s)) q
  · obtain ⟨rfl, ss, e2, hr, hs, rfl⟩ := h
    cases ss with
    | cons s ss => cases hr
    | nil =>
      repeat walk_at "w"
      refine ⟨Nat.zero_le _, ?_⟩
      repeat walk_at "w"
      refine ⟨by have := sizeLine_eq; simp; omega, ?_⟩
      repeat walk_at "w"
      rw [← hs] at q
      exact g_keep (Kp.refl _) (by rfl) q
theorem may_be_left_w (q : Q (.bl (stOf sts z).2.1) S0) : W (fnV 2 2 bMayLeft [eK nm sts, .str z] S0) Q E := by
  rw [show fnV 2 2 bMayLeft [eK nm sts, .str z] S0 = fin S0 (bMayLeft [some (eK nm sts), some (.str z)] S0) from fnV_eq 2 2 _ _ _ rfl]
  refine f_body ?_
  unfold bMayLeft
  repeat walk_at "w"
  refine state_of_w ?_
  repeat walk_at "w"
  refine o_idxT (at1 _ _ _) ?_
  repeat walk_at "w"
  exact g_keep (Kp.refl _) (by rfl) q
theorem deeds_of_w (q : Q (.tup ((stOf sts z).2.2.map eDeed)) S0) : W (fnV 2 2 bDeedsOf [eK nm sts, .str z] S0) Q E := by
  rw [show fnV 2 2 bDeedsOf [eK nm sts, .str z] S0 = fin S0 (bDeedsOf [some (eK nm sts), some (.str z)] S0) from fnV_eq 2 2 _ _ _ rfl]
  refine f_body ?_
  unfold bDeedsOf
  repeat walk_at "w"
  refine state_of_w ?_
  repeat walk_at "w"
  refine o_idxT (at2 _ _ _ _) ?_
  repeat walk_at "w"
  exact g_keep (Kp.refl _) (low_dat _ _ (dat_Deeds _)) q
theorem outs_of_w (q : Q (eOuts (outsOf (stOf sts z).2.2 d)) S0) : W (fnV 3 5 bOutsOf [eK nm sts, .str z, .str d] S0) Q E := by
  rw [show fnV 3 5 bOutsOf [eK nm sts, .str z, .str d] S0 = fin S0 (bOutsOf [some (eK nm sts), some (.str z), some (.str d), none, none] S0) from fnV_eq 3 5 _ _ _ rfl]
  refine f_body ?_
  unfold bOutsOf
  repeat walk_at "w"
  refine deeds_of_w ?_
  repeat walk_at "w"
  generalize (stOf sts z).2.2 = ds at *
  refine s_loop (fun rest ρ T => T = S0 ∧ ∃ (ss : List Deed) (e3 e4 : Option PV), rest = ss.map eDeed ∧ outsOf ss d = outsOf ds d ∧ ρ = [some (eK nm sts), some (.str z), some (.str d), e3, e4]) ⟨rfl, ds, _, _, rfl, rfl, rfl⟩ (fun x rest ρ T h => ?_) (fun ρ T h => ⟨trivial, ?_⟩)
  · obtain ⟨rfl, ss, e3, e4, hr, hs, rfl⟩ := h
    cases ss with
    | nil => cases hr
    | cons s ss =>
      simp only [List.map_cons, List.cons.injEq] at hr
      obtain ⟨rfl, rfl⟩ := hr
      refine ⟨trivial, t_pair (.succ (.succ (.succ .zero))) (.succ (.succ (.succ (.succ .zero)))) ?_⟩
      repeat walk_at "w"
      cases hb : s.1 == d
      · repeat walk_at "w"
        refine ⟨rfl, ss, _, _, rfl, ?_, rfl⟩
        rw [← hs]
        unfold outsOf
        rw [List.find?_cons, hb]
      · repeat walk_at "w"
        have e : outsOf (s :: ss) d = s.2 := by
          unfold outsOf
          rw [List.find?_cons, hb]; rfl
        rw [← hs, e] at q
        exact g_keep (Kp.refl _) (low_dat _ _ (dat_Outs s.2)) q
  · obtain ⟨rfl, ss, e3, e4, hr, hs, rfl⟩ := h
    cases ss with
    | cons s ss => cases hr
    | nil =>
      repeat walk_at "w"
      refine ⟨Nat.zero_le _, ?_⟩
      repeat walk_at "w"
      rw [← hs] at q
      exact g_keep (Kp.refl _) (by rfl) q
theorem isEmpty_outs (os : List Out) : (os.map eOut).isEmpty = os.isEmpty := by cases os <;> rfl
theorem isNon_O (o : Option Str) : (eO o).isNon = o.isNone := by cases o <;> rfl
theorem only_looks_w (q : Q (.bl (looks z (outsOf (stOf sts z).2.2 d))) S0) : W (fnV 3 7 bOnlyLooks [eK nm sts, .str z, .str d] S0) Q E := by
  rw [show fnV 3 7 bOnlyLooks [eK nm sts, .str z, .str d] S0 = fin S0 (bOnlyLooks [some (eK nm sts), some (.str z), some (.str d), none, none, none, none] S0) from fnV_eq 3 7 _ _ _ rfl]
  refine f_body ?_
  unfold bOnlyLooks
  repeat walk_at "w"
  refine outs_of_w ?_
  repeat walk_at "w"
  generalize outsOf (stOf sts z).2.2 d = os at *
  refine ⟨Nat.zero_le _, o_ne (eq_emptyT _) ?_⟩
  rw [isEmpty_outs]
  repeat walk_at "w"
  cases hb : os.isEmpty
  · repeat walk_at "w"
    unfold eOuts
    repeat walk_at "w"
    simp only [wipeE, List.set_cons_succ, List.set_cons_zero]
    refine w_pureA (fun o => .bl (o.2.1 == some z && o.2.2.isNone)) trivial (fun o _ => ?_) ?_
    · refine t_three (.succ (.succ (.succ (.succ .zero)))) (.succ (.succ (.succ (.succ (.succ .zero))))) (.succ (.succ (.succ (.succ (.succ (.succ .zero)))))) ?_
      repeat walk_at "w"
      refine o_eq (eqS_O _ _) ?_
      repeat walk_at "w"
      cases h1 : o.2.1 == some z
      · repeat walk_at "w"
        exact ⟨rfl, rfl⟩
      · repeat walk_at "w"
        rw [isNon_O]
        exact ⟨rfl, rfl⟩
    · rw [show (os.map fun o : Out => PV.bl (o.2.1 == some z && o.2.2.isNone)) = (os.map fun o : Out => (o.2.1 == some z && o.2.2.isNone)).map PV.bl from by rw [List.map_map]; rfl]
      refine o_all ?_
      repeat walk_at "w"
      refine g_keep (Kp.refl _) (by rfl) ?_
      unfold looks at q
      rw [hb] at q
      rw [List.all_map]
      exact q
  · repeat walk_at "w"
    refine g_keep (Kp.refl _) (by rfl) ?_
    unfold looks at q
    rw [hb] at q; exact q
end
end Ev

/-! Fw33: names that are drawn are none of the barred words. -/
namespace Ev
open PySem PySem.Spec PyProof.Rows L2 SX
local macro_rules | `(tactic| walk_at "w") => `(tactic| first
  | (with_reducible apply s_set; focus (repeat first | exact SetR.zero | apply SetR.succ))
  | (with_reducible apply w_get; focus (repeat first | exact GetR.zero | apply GetR.succ))
  | with_reducible first
  | refine s_seqN ?_ | refine s_seq ?_ | refine q_nx ?_ | refine q_ret ?_ | refine q_brk ?_ | refine q_cnt ?_ | refine q_exc ?_
  | refine s_nil ?_ | refine s_pass ?_ | refine s_brk ?_ | refine s_cnt ?_ | refine s_expr ?_ | refine s_ret ?_ | refine s_retN ?_ | refine s_if ?_ | refine s_unp ?_ | refine s_sub ?_ | refine s_for ?_
  | refine w_c ?_ | (refine w_str ?_ ?_; decide +kernel) | refine w_bin ?_ | refine w_un ?_ | refine w_chn ?_ | refine w_bV ?_ | refine w_bBl ?_ | refine w_bAnd ?_ | refine w_bOr ?_ | refine w_bNot ?_ | refine w_bYes ?_
  | refine w_vAnd ?_ | refine w_vOr ?_ | refine w_vNot ?_ | refine w_vIf ?_ | refine w_nil ?_ | refine w_cons ?_ | refine w_tup ?_ | refine w_disp ?_ | refine w_new ?_ | refine lnew ?_ | refine w_oNone ?_ | refine w_oSome ?_ | refine w_slc ?_ | refine w_lslc ?_ | refine slcT ?_ | refine slcS ?_
  | refine w_call ?_ | refine w_callL ?_ | refine w_lcallL ?_ | refine w_lcallN ?_ | refine w_isi ?_ | refine w_app ?_ | refine w_app0 ?_ | refine w_lval ?_ | refine w_cat ?_ | refine w_eqL ?_ | refine w_lm ?_ | refine w_ext ?_ | refine w_sm ?_ | refine w_sm0 ?_ | refine w_lsm ?_ | refine w_smL ?_ | refine w_dic0 ?_ | refine w_dic1 ?_ | refine w_iV ?_ | refine w_iL ?_ | refine il_none ?_ | refine il_some ?_ | refine w_rng ?_ | refine w_comp ?_ | refine w_rev ?_ | refine w_lenSet ?_ | refine w_extV ?_
  | refine o_addI ?_ | refine o_iadd ?_ | refine o_sub ?_ | refine o_neg ?_ | refine o_ltI ?_ | refine o_le ?_ | refine o_gt ?_ | refine o_ge ?_ | refine o_is ?_ | refine o_isNot ?_ | refine o_lenT ?_ | refine o_lenF ?_ | refine o_lenS ?_ | refine o_intB ?_ | refine o_intI ?_ | refine o_max ?_ | refine o_min ?_ | refine o_tupT ?_ | refine o_eqI ?_ | refine o_eqS ?_ | refine o_eqB ?_
  | refine b_is ?_ | refine i_is ?_ | refine s_is ?_ | refine i_tup ?_ | refine i_str ?_ | refine tr_bl ?_ | refine ty_bl ?_ | refine ty_str ?_ | refine ty_tup ?_ | refine ty_int ?_ | refine k_s ?_ | refine k_i ?_
  | refine Br.tt ?_ | refine Br.ff ?_ | refine Br.nf ?_ | refine Br.nt ?_ | refine f_ret ?_ | refine f_nx ?_ | refine f_body ?_)
section
variable {n : Nat} {Q : PV → Store → Prop} {E : PX → Store → Prop} {S0 : Store}
theorem unlike_w2 {j : Nat} {ws : List Str} (hn : S0[j]? = some (.lst (ws.map .str))) (hl : ws.length ≤ 12) (hg : ∀ z ∈ ws, good z)
    (q : ∀ us : List Str, us.length = ws.length → (∀ z ∈ us, good z) → us.Nodup → (∀ z ∈ us, z ∉ barL) → Q (.ref S0.length) (S0 ++ [.lst (us.map .str)])) : W (fnV 1 4 bUnlike [.ref j] S0) Q E := by
  rw [show fnV 1 4 bUnlike [.ref j] S0 = fin S0 (bUnlike [some (.ref j), none, none, none] S0) from fnV_eq 1 4 _ _ _ rfl]
  refine f_body ?_
  unfold bUnlike
  rw [lt26_eq]
  refine s_seq ?_
  apply s_set
  · exact .succ .zero
  refine w_str SOk_lt26 ?_
  repeat walk_at "w"
  refine ⟨Nat.zero_le _, ?_⟩
  repeat walk_at "w"
  have hj := lt_of_get hn
  refine i_ref (get_app_lt hn) ?_
  refine s_loop (fun rest ρ T => Kp S0 T ∧ ∃ (us zs : List Str) (e3 : Option PV), rest = zs.map .str ∧ us.length + zs.length = ws.length ∧ (∀ z ∈ us, good z) ∧ us.Nodup ∧ (∀ z ∈ us, z ∉ barL) ∧ (∀ z ∈ zs, good z) ∧ T[S0.length]? = some (.lst (us.map .str)) ∧ ρ = [some (.ref j), some (.str (S lt26)), some (.ref S0.length), e3])
    ⟨Kp.app _ _, [], ws, _, rfl, by simp, by simp, List.nodup_nil, fun z hz => absurd hz List.not_mem_nil, hg, get_app _ _ _, rfl⟩ (fun x rest ρ T h => ?_) (fun ρ T h => ?_)
  · obtain ⟨K, us, zs, e3, hr, hlen, hgu, hnd, hnb, hgz, hT, rfl⟩ := h
    refine ⟨K.at hn, t_n (.succ (.succ (.succ .zero))) ?_⟩
    cases zs with
    | nil => cases hr
    | cons z zs =>
      simp only [List.map_cons, List.cons.injEq] at hr
      obtain ⟨rfl, rfl⟩ := hr
      simp only [List.length_cons] at hlen
      have gz := hgz z (by simp)
      obtain ⟨a, rfl⟩ := S_ex z
      obtain ⟨c, t, rfl⟩ : ∃ c t, a = c :: t := by
        cases a with
        | nil => have := gz.1; rw [len_S] at this; simp at this
        | cons c t => exact ⟨c, t, rfl⟩
      have gz := good_S.mp gz
      have hc : isLt c := gz.2.2 c (by simp)
      obtain ⟨M, hM, hM1, hM2⟩ := free_rot (us := us) (by omega) (c - 97) t
      have gw : ∀ k, good (wd (c - 97) t k) := fun k => good_S.mpr ⟨by simp, by simpa using gz.2.1, fun d hd => by
        rcases List.mem_cons.mp hd with rfl | hd
        · exact ⟨by omega, by omega⟩
        · exact gz.2.2 d (by simp [hd])⟩
      have e0 : S (c :: t) = wd (c - 97) t 0 := by
        unfold wd
        congr 2
        have := hc.1; have := hc.2
        omega
      refine s_seq ?_
      refine s_while (fun m ρ V => ∃ k, m + k = M ∧ Kp S0 V ∧ V[S0.length]? = some (.lst (us.map .str)) ∧ ρ = [some (.ref j), some (.str (S lt26)), some (.ref S0.length), some (.str (wd (c - 97) t k))]) M ⟨0, by simp, K, hT, by rw [e0]⟩ fun m ρ V h => ?_
      obtain ⟨k, hk, KV, hV, rfl⟩ := h
      have app : ∀ V, Kp S0 V → V[S0.length]? = some (.lst (us.map .str)) → wd (c - 97) t k ∉ us → wd (c - 97) t k ∉ barL → WS (sExpr (vLm mAppend (vVar 2) (vsCons (vVar 3) vsNil)) [some (.ref j), some (.str (S lt26)), some (.ref S0.length), some (.str (wd (c - 97) t k))] V) fun o => TurnOk o (fun ρ T => Kp S0 T ∧ ∃ (us zs' : List Str) (e3 : Option PV), zs.map PV.str = zs'.map .str ∧ us.length + zs'.length = ws.length ∧ (∀ z ∈ us, good z) ∧ us.Nodup ∧ (∀ z ∈ us, z ∉ barL) ∧ (∀ z ∈ zs', good z) ∧ T[S0.length]? = some (.lst (us.map .str)) ∧ ρ = [some (.ref j), some (.str (S lt26)), some (.ref S0.length), e3]) (fun r => WS (r.seq (sSeq (sRet (vVar 2)) sNil)) fun r => W (fin S0 r) Q E) := by
        intro V KV hV hnu hnb2
        repeat walk_at "w"
        refine o_getL hV ?_
        repeat walk_at "w"
        refine o_getL hV ?_
        refine o_app (by have := sizeLine_eq; simp; omega) ?_
        refine ⟨KV.setL (Nat.le_refl _) _, us ++ [wd (c - 97) t k], zs, _, rfl, by simp; omega, ?_, by rw [List.nodup_append]; exact ⟨hnd, by simp, fun x hx y hy => by rw [List.mem_singleton.mp hy]; rintro rfl; exact hnu hx⟩, fun z hz => (List.mem_append.mp hz).elim (hnb z) (fun e => by rw [List.mem_singleton.mp e]; exact hnb2), fun z hz => hgz z (by simp [hz]), by rw [List.map_append]; exact get_set hV, rfl⟩
        intro z hz
        rcases List.mem_append.mp hz with hz | hz
        · exact hgu z hz
        · rw [List.mem_singleton.mp hz]; exact gw k
      have step : ∀ {Q' : SR → Prop} (V : Store), Kp S0 V → V[S0.length]? = some (.lst (us.map .str)) → k ≠ M → WS (sSet 3 (vBin oAdd (vBin oIdx (vVar 1) (vBin oMod (vBin oAdd (vSm mIndex (vVar 1) (vsCons (vBin oIdx (vVar 3) (vC (.int 0))) vsNil)) (vC (.int 1))) (vC (.int 26)))) (vSlc (vVar 3) (oSome (vC (.int 1))) oNone)) [some (.ref j), some (.str (S lt26)), some (.ref S0.length), some (.str (wd (c - 97) t k))] V) fun o => TurnOk o (fun ρ' S' => ∃ m', m' < m ∧ ∃ k, m' + k = M ∧ Kp S0 S' ∧ S'[S0.length]? = some (.lst (us.map .str)) ∧ ρ' = [some (.ref j), some (.str (S lt26)), some (.ref S0.length), some (.str (wd (c - 97) t k))]) Q' := by
        intro Q' V KV hV hne
        repeat walk_at "w"
        refine o_idxS (y := 97 + (c - 97 + k) % 26) (at0 (97 + (c - 97 + k) % 26) t) ?_
        repeat walk_at "w"
        refine o_index ⟨by omega, by omega⟩ ?_
        repeat walk_at "w"
        refine o_mod (by omega) ?_
        refine o_letter (by omega) (by omega) fun _ => ?_
        repeat walk_at "w"
        unfold wd
        rw [sCut, cut_from _ (by omega)]
        refine o_addS (by rw [len_S, len_S]; have := sizeLine_eq; have := gz.2.1; simp at this ⊢; omega) ?_
        refine ⟨m - 1, by omega, k + 1, by omega, KV, hV, ?_⟩
        rw [S_cat]
        congr 4
        simp only [Int.toNat_one, List.drop_succ_cons, List.drop_zero, List.singleton_append]
        have e : 97 + ((((97 + (c - 97 + k) % 26 - 97 : Nat) : Int) + 1) % 26).toNat = 97 + (c - 97 + (k + 1)) % 26 := by omega
        rw [e]
      repeat walk_at "w"
      refine o_in (in_strs hV _) ?_
      repeat walk_at "w"
      refine Br.dec (fun h1 => ?_) (fun h1 => ?_)
      · refine Br.tt ?_
        refine s_seqN ?_
        refine step V KV hV ?_
        rintro rfl
        exact hM1 h1
      · repeat walk_at "w"
        refine barred_w ?_
        refine o_in (in_strs (get_app _ _ _) _) ?_
        repeat walk_at "w"
        have K2 := KV.trans (Kp.app V [.lst (barL.map .str)])
        have hV2 : (V ++ [PObj.lst (barL.map PV.str)])[S0.length]? = some (.lst (us.map .str)) := get_app_lt hV
        refine Br.dec (fun h2 => ?_) (fun h2 => ?_)
        · refine s_seqN ?_
          refine step _ K2 hV2 ?_
          rintro rfl
          exact hM2 h2
        · refine q_nx ?_
          refine s_seqN ?_
          exact app _ K2 hV2 h1 h2
  · obtain ⟨K, us, zs, e3, hr, hlen, hgu, hnd, hnb, hgz, hT, rfl⟩ := h
    refine ⟨K.at hn, ?_⟩
    cases zs with
    | cons z zs => cases hr
    | nil =>
      repeat walk_at "w"
      exact g_new K (Nat.le_refl _) hT (lows_strs _ _) (q us (by simpa using hlen) hgu hnd hnb)
theorem names_w2 {i : Nat} (hw : HasW i S0) (q : ∀ (ws : List Str) (U : Store), Fr isWell i S0 U → U.length = S0.length + 1 → U[S0.length]? = some (.lst (ws.map .str)) → ws.length = 12 → (∀ z ∈ ws, good z) → ws.Nodup → (∀ z ∈ ws, z ∉ barL) → Q (.ref S0.length) U) : W (fnV 2 14 bNames [.ref i, .int 12] S0) Q E := by
  rw [show fnV 2 14 bNames [.ref i, .int 12] S0 = fin S0 (bNames [some (.ref i), some (.int 12), none, none, none, none, none, none, none, none, none, none, none, none] S0) from fnV_eq 2 14 _ _ _ rfl]
  refine f_body ?_
  unfold bNames
  rw [lt26_eq]
  refine s_seq ?_
  apply s_set
  · exact .succ (.succ .zero)
  refine w_str SOk_lt26 ?_
  repeat walk_at "w"
  refine rng1 ⟨by omega, by omega⟩ ?_
  simp only [wipeE, List.set_cons_succ, List.set_cons_zero]
  refine letters_w (.succ (.succ (.succ (.succ (.succ (.succ (.succ (.succ .zero)))))))) (fun x => .zero) (fun x => .succ (.succ .zero)) hw fun b T F u hb hbl => ?_
  refine o_join (fun c hc => by have := (hbl c hc).2; omega) (by simp at hb; omega) ?_
  replace hb : b.length = 8 := hb
  repeat walk_at "w"
  refine take_w F.own (by omega) fun way T1 F1 u1 w0 w1 => ?_
  repeat walk_at "w"
  refine take_w F1.own (by omega) fun lo T2 F2 u2 l0 l1 => ?_
  repeat walk_at "w"
  refine take_w F2.own (by omega) fun at' T3 F3 u3 a0 a1 => ?_
  repeat walk_at "w"
  refine ⟨Nat.zero_le _, ?_⟩
  repeat walk_at "w"
  refine rng1 ⟨by omega, by omega⟩ ?_
  have hi := hw.lt
  have F03 := ((F.trans F1).trans F2).trans F3
  have u03 : T3.length = S0.length := by omega
  rw [u03]
  have hT0 : (T3 ++ [PObj.lst []])[S0.length]? = some (.lst (([] : List Str).map .str)) := by rw [← u03]; exact get_app _ _ _
  have hne : S0.length ≠ i := by omega
  refine s_loop (fun rest ρ T => Fr isWell i S0 T ∧ T.length = S0.length + 1 ∧ ∃ (ws : List Str) (e8 e9 e10 e11 : Option PV), T[S0.length]? = some (.lst (ws.map .str)) ∧ (∀ z ∈ ws, good z) ∧ (∀ x ∈ rest, ∃ k : Nat, x = .int (k : Int)) ∧ ws.length + rest.length = 12 ∧
    ρ = [some (.ref i), some (.int 12), some (.str (S lt26)), some (.str (S b)), some (.int way), some (.int (1 + lo)), some (.int at'), some (.ref S0.length), e8, e9, e10, e11, none, none])
    ⟨F03.kp (Kp.app _ _), by simp [u03], [], _, _, _, _, hT0, by simp, fun x hx => by
      obtain ⟨k, _, rfl⟩ := mem_rangeL.mp hx
      exact ⟨k, rfl⟩, by simp [rangeL], rfl⟩ (fun x rest ρ T h => ?_) (fun ρ T h => ⟨trivial, ?_⟩)
  · obtain ⟨FT, uT, ws, e8, e9, e10, e11, hT, hg, hx, hl, rfl⟩ := h
    refine ⟨trivial, t_n (.succ (.succ (.succ (.succ (.succ (.succ (.succ (.succ .zero)))))))) ?_⟩
    obtain ⟨k, rfl⟩ := hx x (by simp)
    simp only [List.length_cons] at hl
    have app : ∀ {Q' : SR → Prop} (V : Store) (z : Str) (e8 e9 e11 : Option PV), good z → Fr isWell i S0 V → V.length = S0.length + 1 → V[S0.length]? = some (.lst (ws.map .str)) →
        WS (sExpr (vLm mAppend (vVar 7) (vsCons (vVar 10) vsNil)) [some (.ref i), some (.int 12), some (.str (S lt26)), some (.str (S b)), some (.int way), some (.int (1 + lo)), some (.int at'), some (.ref S0.length), e8, e9, some (.str z), e11, none, none] V) fun o => TurnOk o (fun ρ T => Fr isWell i S0 T ∧ T.length = S0.length + 1 ∧ ∃ (ws : List Str) (e8 e9 e10 e11 : Option PV), T[S0.length]? = some (.lst (ws.map .str)) ∧ (∀ z ∈ ws, good z) ∧ (∀ x ∈ rest, ∃ k : Nat, x = .int (k : Int)) ∧ ws.length + rest.length = 12 ∧
          ρ = [some (.ref i), some (.int 12), some (.str (S lt26)), some (.str (S b)), some (.int way), some (.int (1 + lo)), some (.int at'), some (.ref S0.length), e8, e9, e10, e11, none, none])
          Q' := by
      intro Q' V z e8 e9 e11 gz FV uV hV
      repeat walk_at "w"
      refine o_getL hV ?_
      repeat walk_at "w"
      refine o_getL hV ?_
      refine o_app (by have := sizeLine_eq; simp; omega) ?_
      refine ⟨FV.setL (Nat.le_refl _) hne _, by simp [PV.num, uV], ws ++ [z], _, _, _, _, by rw [List.map_append]; exact get_set hV, fun y hy => ?_, fun x h => hx x (by simp [h]), by simp; omega, rfl⟩
      rcases List.mem_append.mp hy with hy | hy
      · exact hg y hy
      · rw [List.mem_singleton.mp hy]; exact gz
    repeat walk_at "w"
    obtain ⟨c, hc, hcb⟩ := atI_ex (xs := b) (k := at') a0 (by omega)
    refine o_idxS (y := c) hc ?_
    repeat walk_at "w"
    refine o_index (hbl c hcb) ?_
    repeat walk_at "w"
    refine o_mod (by omega) ?_
    refine o_letter (by omega) (by omega) fun hlt => ?_
    repeat walk_at "w"
    rw [sCut, cut_to _ a0]
    refine o_addS (by rw [len_S, len_S]; have := sizeLine_eq; simp; omega) ?_
    repeat walk_at "w"
    rw [sCut, cut_mid _ (by omega) (by omega), S_cat]
    refine o_addS (by rw [len_S, len_S]; have := sizeLine_eq; simp; omega) ?_
    rw [S_cat]
    repeat walk_at "w"
    by_cases c0 : way = 0
    · refine Br.of_tt (by simp [c0]) ?_
      repeat walk_at "w"
      refine o_mod (by omega) ?_
      iterate 3 walk_at "w"
      rw [sCut, cut_to _ (by omega)]
      refine q_nx ?_
      refine s_seqN ?_
      refine app _ _ _ _ _ (good_S.mpr ⟨by simp; omega, by simp; omega, fun d hd => hbl d (List.mem_of_mem_take hd)⟩) FT uT hT
    refine Br.of_ff (by simp [c0]) ?_
    repeat walk_at "w"
    by_cases c1 : way = 1
    · refine Br.of_tt (by simp [c1]) ?_
      repeat walk_at "w"
      refine take_w FT.own (by omega) fun r4 V4 F4 u4 r40 r41 => ?_
      repeat walk_at "w"
      refine rng1 ⟨by omega, by omega⟩ ?_
      simp only [wipeE, List.set_cons_succ, List.set_cons_zero]
      refine letters_w (.succ (.succ (.succ (.succ (.succ (.succ (.succ (.succ (.succ (.succ (.succ (.succ (.succ .zero))))))))))))) (fun x => .zero) (fun x => .succ (.succ .zero)) F4.own fun b2 V5 F5 u5 hb2 hbl2 => ?_
      refine o_join (fun c hc => by have := (hbl2 c hc).2; omega) (by omega) ?_
      have F45 := F4.trans F5
      refine q_nx ?_
      refine s_seqN ?_
      refine app _ _ _ _ _ (good_S.mpr ⟨by omega, by omega, hbl2⟩) (FT.trans F45) (by omega) (F45.of hT hne)
    · refine Br.of_ff (by simp [c1]) ?_
      refine s_nil ?_
      refine q_nx ?_
      refine s_seqN ?_
      refine app _ _ _ _ _ (good_S.mpr ⟨by simp; omega, by simp; omega, fun d hd => ?_⟩) FT uT hT
      simp only [List.mem_append, List.mem_singleton] at hd
      rcases hd with (hd | rfl) | hd
      · exact hbl d (List.mem_of_mem_take hd)
      · exact hlt
      · exact hbl d (List.mem_of_mem_drop (List.mem_of_mem_take hd))
  · obtain ⟨FT, uT, ws, e8, e9, e10, e11, hT, hg, hx, hl, rfl⟩ := h
    simp only [List.length_nil, Nat.add_zero] at hl
    have last : ∀ (V : Store) (us : List Str) (e12 : Option PV), Fr isWell i S0 V → us.length = 12 → (∀ z ∈ us, good z) → V[S0.length]? = some (.lst (us.map .str)) →
        WS (sRet (vApp (fnV 1 4 bUnlike) (vsCons (vVar 7) vsNil)) [some (.ref i), some (.int 12), some (.str (S lt26)), some (.str (S b)), some (.int way), some (.int (1 + lo)), some (.int at'), some (.ref S0.length), e8, e9, e10, e11, e12, none] V) fun r => W (fin S0 r) Q E := by
      intro V us e12 FV hl hg hV
      repeat walk_at "w"
      refine unlike_w2 hV (by omega) hg fun us2 h2 g2 nd2 nb2 => ?_
      refine f_ret ?_
      exact g_frNew (FV.kp (Kp.app _ _)) lowW hi FV.le (get_app _ _ _) (lows_strs _ _) fun U FU uU hU => q us2 U FU uU hU (by omega) g2 nd2 nb2
    repeat walk_at "w"
    refine take_w FT.own (by omega) fun r4 V4 F4 u4 r40 r41 => ?_
    repeat walk_at "w"
    have F04 := FT.trans F4
    by_cases c0 : r4 = 1
    · refine Br.of_tt (by simp [c0]) ?_
      repeat walk_at "w"
      refine ⟨by have := sizeLine_eq; simp; omega, ?_⟩
      repeat walk_at "w"
      have F5 := F04.kp (Kp.app V4 [PObj.lst [PV.str "done", .str "open", .str "room", .str "none", .str "yes", .str "no"]])
      refine take_w F5.own (by omega) fun r6 V6 F6 u6 r60 r61 => ?_
      obtain ⟨z, hz, hm⟩ := atI_ex (xs := (["done", "open", "room", "none", "yes", "no"] : List Str)) (k := r6) r60 (by simpa using r61)
      have gz : good z := by
        have : ∀ z ∈ (["done", "open", "room", "none", "yes", "no"] : List Str), 1 ≤ z.length ∧ z.length ≤ 8 ∧ z.cps.toList.all (fun c => decide (97 ≤ c) && decide (c < 123)) = true := by decide +kernel
        obtain ⟨h1, h2, h3⟩ := this z hm
        refine ⟨h1, h2, fun c hc => ?_⟩
        have := List.all_eq_true.mp h3 c hc
        simp only [Bool.and_eq_true, decide_eq_true_eq] at this
        exact this
      have h6 : V6[V4.length]? = some (.lst ((["done", "open", "room", "none", "yes", "no"] : List Str).map .str)) := F6.of (get_app _ _ _) (by have := F04.le; omega)
      refine o_idxR (y := .str z) h6 (by rw [atI_map, hz]; rfl) ?_
      repeat walk_at "w"
      refine take_w F6.own (by omega) fun r7 V7 F7 u7 r70 r71 => ?_
      have F07 := (F5.trans F6).trans F7
      have h7 : V7[S0.length]? = some (.lst (ws.map .str)) := F7.of (F6.of (get_app_lt (F4.of hT hne)) hne) hne
      refine o_st (n := r7.toNat) h7 (ixN_in r70 (by simp; omega)) ?_
      refine q_nx ?_
      refine s_seqN ?_
      refine last _ (ws.set r7.toNat z) _ (F07.setL (Nat.le_refl _) hne _) (by simp [hl]) (fun y hy => ?_) (by rw [List.map_set]; exact get_set h7)
      rcases List.mem_or_eq_of_mem_set hy with h | rfl
      · exact hg y h
      · exact gz
    · refine Br.of_ff (by simp [c0]) ?_
      refine s_nil ?_
      refine q_nx ?_
      refine s_seqN ?_
      exact last V4 ws _ F04 hl hg (F4.of hT hne)
end
end Ev

/-! Fw34: a kind that is drawn is one. -/
namespace Ev
open PySem PySem.Spec PyProof.Rows L2 SX
theorem nm_good {z : Str} (h : good z) (hb : z ∉ barL) : nm (.str z) = true := by
  obtain ⟨h1, h2, h3⟩ := h
  simp only [nm, nmS, Bool.and_eq_true, decide_eq_true_eq, Bool.not_eq_true', decide_eq_false_iff_not, List.all_eq_true]
  exact ⟨h1, h2, hb, fun c hc => mem_lt26.mpr (h3 c hc)⟩
def allN (l : List Str) : Prop := ∀ z ∈ l, nm (.str z) = true
theorem maybe_ok {l : List Str} (hl : allN l) {o : Option Str} (h : ∀ z, o = some z → z ∈ l) : sMaybe (eO o) = true := by
  cases o with
  | none => rfl
  | some z => exact hl z (h z rfl)
theorem out_ok {ws st ks : List Str} (hw : allN ws) (hs : allN st) (hk : allN ks) {o : Out} (h : outOk ws st ks o) : sOut (eOut o) = true := by
  show (nm (.str o.1) && (sMaybe (eO o.2.1) && sMaybe (eO o.2.2))) = true
  rw [hw _ h.1, maybe_ok hs h.2.1, maybe_ok hk h.2.2]; rfl
theorem deed_ok {ws st ks : List Str} (hw : allN ws) (hs : allN st) (hk : allN ks) {d : Deed} (h : deedOk ws st ks d) : sDeed (eDeed d) = true := by
  obtain ⟨h1, h2, h3, h4, h5⟩ := h
  show (nm (.str d.1) && ((decide (1 ≤ (d.2.map eOut).length) && decide ((d.2.map eOut).length ≤ 6)) && ((d.2.map eOut).all sOut && decide ((d.2.map eOut).map hdN).Nodup))) = true
  have e : (d.2.map eOut).map hdN = d.2.map (·.1) := by rw [List.map_map]; rfl
  have l : 1 ≤ d.2.length := by
    cases hd : d.2 with
    | nil => exact absurd hd h2
    | cons a b => simp
  have a : (d.2.map eOut).all sOut = true := List.all_eq_true.mpr fun x hx => by
    obtain ⟨o, ho, rfl⟩ := List.mem_map.mp hx
    exact out_ok hw hs hk (h5 o ho)
  rw [hw _ h1, e, a, List.length_map, decide_eq_true l, decide_eq_true h3, decide_eq_true h4]; rfl
theorem state_ok {ws st ks : List Str} (hw : allN ws) (hs : allN st) (hk : allN ks) {s : State} (hn : s.1 ∈ ws) (h : stateOk ws st ks s) : sState (eSt s) = true := by
  obtain ⟨h1, h2, h3⟩ := h
  show (nm (.str s.1) && (true && (decide ((s.2.2.map eDeed).length ≤ 8) && ((s.2.2.map eDeed).all sDeed && decide ((s.2.2.map eDeed).map hdN).Nodup)))) = true
  have e : (s.2.2.map eDeed).map hdN = s.2.2.map (·.1) := by rw [List.map_map]; rfl
  have a : (s.2.2.map eDeed).all sDeed = true := List.all_eq_true.mpr fun x hx => by
    obtain ⟨o, ho, rfl⟩ := List.mem_map.mp hx
    exact deed_ok hw hs hk (h3 o ho)
  rw [hw _ hn, e, a, List.length_map, decide_eq_true h1, decide_eq_true h2]; rfl
end Ev

/-! Fw35: is True, is False; a wider walk; loops that look for something. -/
namespace Ev
open PySem PySem.Spec PyProof.Rows L2 SX
def oIsB (x y : PV) (_ : Store) : Option PV := match x, y with
  | .bl a, .bl b => some (.bl (decide (a = b)))
  | _, _ => none
def oIsNotB (x y : PV) (_ : Store) : Option PV := match x, y with
  | .bl a, .bl b => some (.bl (!decide (a = b)))
  | _, _ => none
section
variable {X : Cx}
theorem os_isB : OpS X (compareOp .Is) oIsB := by
  intro pins s σ H x y v u Q I rx ry h
  obtain ⟨μ, S, a, b, z, R, ra, rb, hf, q⟩ := h
  unfold oIsB at hf
  split at hf
  · cases hf
    cases ra
    cases rb
    exact op_isBl pins s σ H _ _ v u Q I rx ry ⟨_, _, rfl, rfl, q H _ Ext.refl R (.bl _)⟩
  · cases hf
theorem os_isNotB : OpS X (compareOp .IsNot) oIsNotB := by
  intro pins s σ H x y v u Q I rx ry h
  obtain ⟨μ, S, a, b, z, R, ra, rb, hf, q⟩ := h
  unfold oIsNotB at hf
  split at hf
  · cases hf
    cases ra
    cases rb
    exact op_notBl pins s σ H _ _ v u Q I rx ry ⟨_, _, rfl, rfl, q H _ Ext.refl R (.bl _)⟩
  · cases hf
end
section
variable {P : PV → Prop} {S : Store}
theorem o_neI {a b : Int} (q : P (.bl (!(a == b)))) : Op (oNe (.int a) (.int b) S) P := o_ne (eqS_int S a b) q
theorem o_neS {a b : Str} (q : P (.bl (!(a == b)))) : Op (oNe (.str a) (.str b) S) P := o_ne (eqS_str S a b) q
theorem o_neB {a b : Bool} (q : P (.bl (!(a == b)))) : Op (oNe (.bl a) (.bl b) S) P := o_ne (eqS_bl S a b) q
theorem o_isT {a : Bool} (q : P (.bl a)) : Op (oIsB (.bl a) (.bl true) S) P := Op.of (by cases a <;> rfl) q
theorem o_isF {a : Bool} (q : P (.bl (!a))) : Op (oIsB (.bl a) (.bl false) S) P := Op.of (by cases a <;> rfl) q
theorem o_isNT {a : Bool} (q : P (.bl (!a))) : Op (oIsNotB (.bl a) (.bl true) S) P := Op.of (by cases a <;> rfl) q
theorem o_isNF {a : Bool} (q : P (.bl a)) : Op (oIsNotB (.bl a) (.bl false) S) P := Op.of (by cases a <;> rfl) q
end
section
variable {ρ : Env'} {P : Env' → Prop}
theorem t_tup {g : List PV → Env' → Option Env'} {xs : List PV} (q : Op (g xs ρ) P) : Op (tgT g (.tup xs) ρ) P := q
theorem t_cons {t : Tgt} {r : List PV → Env' → Option Env'} {x : PV} {xs : List PV} (q : Op (t x ρ) fun ρ1 => Op (r xs ρ1) P) : Op (tgCons t r (x :: xs) ρ) P := by
  unfold tgCons
  dsimp only
  cases h : t x ρ with
  | none => rw [h] at q; exact q.elim
  | some u => rw [h] at q; exact q
theorem t_nil (q : P ρ) : Op (tgNil [] ρ) P := q
end
theorem len_le {α : Type} {xs : List α} (h : Nat.ble xs.length 16777216 = true) : xs.length ≤ sizeLine := sizeLine_ge (Nat.le_of_ble_eq_true h)
theorem g_keepR {S : Store} {v : PV} {Q : PV → Store → Prop} {E : PX → Store → Prop} (hv : v.low S.length = true) (q : Q v S) : W (gcV S v S) Q E := g_keep (Kp.refl S) hv q
/-- a statement whose ways meet again -/
theorem s_join {a b : TSt} {ρ : Env'} {S : Store} {Q : SR → Prop} (I : Env' → Store → Prop) (h1 : WS (a ρ S) fun r => match r with | .nx ρ' T => I ρ' T | _ => False) (h2 : ∀ ρ' T, I ρ' T → WS (b ρ' T) Q) : WS (a ρ S) fun r => WS (r.seq b) Q := by
  show WS ((a ρ S).seq b) Q
  have h1 : (match a ρ S with | .nx ρ' T => I ρ' T | _ => False) := h1
  generalize a ρ S = r at *
  cases r with
  | nx ρ' T => exact h2 ρ' T h1
  | _ => exact h1.elim
theorem setR0 {a0 : Option PV} {ρ : Env'} : SetR (a0 :: ρ) 0 fun x => some x :: ρ := .zero
theorem setR1 {a0 a1 : Option PV} {ρ : Env'} : SetR (a0 :: a1 :: ρ) 1 fun x => a0 :: some x :: ρ := .succ (.zero)
theorem setR2 {a0 a1 a2 : Option PV} {ρ : Env'} : SetR (a0 :: a1 :: a2 :: ρ) 2 fun x => a0 :: a1 :: some x :: ρ := .succ (.succ (.zero))
theorem setR3 {a0 a1 a2 a3 : Option PV} {ρ : Env'} : SetR (a0 :: a1 :: a2 :: a3 :: ρ) 3 fun x => a0 :: a1 :: a2 :: some x :: ρ := .succ (.succ (.succ (.zero)))
theorem setR4 {a0 a1 a2 a3 a4 : Option PV} {ρ : Env'} : SetR (a0 :: a1 :: a2 :: a3 :: a4 :: ρ) 4 fun x => a0 :: a1 :: a2 :: a3 :: some x :: ρ := .succ (.succ (.succ (.succ (.zero))))
theorem setR5 {a0 a1 a2 a3 a4 a5 : Option PV} {ρ : Env'} : SetR (a0 :: a1 :: a2 :: a3 :: a4 :: a5 :: ρ) 5 fun x => a0 :: a1 :: a2 :: a3 :: a4 :: some x :: ρ := .succ (.succ (.succ (.succ (.succ (.zero)))))
theorem setR6 {a0 a1 a2 a3 a4 a5 a6 : Option PV} {ρ : Env'} : SetR (a0 :: a1 :: a2 :: a3 :: a4 :: a5 :: a6 :: ρ) 6 fun x => a0 :: a1 :: a2 :: a3 :: a4 :: a5 :: some x :: ρ := .succ (.succ (.succ (.succ (.succ (.succ (.zero))))))
theorem setR7 {a0 a1 a2 a3 a4 a5 a6 a7 : Option PV} {ρ : Env'} : SetR (a0 :: a1 :: a2 :: a3 :: a4 :: a5 :: a6 :: a7 :: ρ) 7 fun x => a0 :: a1 :: a2 :: a3 :: a4 :: a5 :: a6 :: some x :: ρ := .succ (.succ (.succ (.succ (.succ (.succ (.succ (.zero)))))))
theorem setR8 {a0 a1 a2 a3 a4 a5 a6 a7 a8 : Option PV} {ρ : Env'} : SetR (a0 :: a1 :: a2 :: a3 :: a4 :: a5 :: a6 :: a7 :: a8 :: ρ) 8 fun x => a0 :: a1 :: a2 :: a3 :: a4 :: a5 :: a6 :: a7 :: some x :: ρ := .succ (.succ (.succ (.succ (.succ (.succ (.succ (.succ (.zero))))))))
theorem setR9 {a0 a1 a2 a3 a4 a5 a6 a7 a8 a9 : Option PV} {ρ : Env'} : SetR (a0 :: a1 :: a2 :: a3 :: a4 :: a5 :: a6 :: a7 :: a8 :: a9 :: ρ) 9 fun x => a0 :: a1 :: a2 :: a3 :: a4 :: a5 :: a6 :: a7 :: a8 :: some x :: ρ := .succ (.succ (.succ (.succ (.succ (.succ (.succ (.succ (.succ (.zero)))))))))
theorem setR10 {a0 a1 a2 a3 a4 a5 a6 a7 a8 a9 a10 : Option PV} {ρ : Env'} : SetR (a0 :: a1 :: a2 :: a3 :: a4 :: a5 :: a6 :: a7 :: a8 :: a9 :: a10 :: ρ) 10 fun x => a0 :: a1 :: a2 :: a3 :: a4 :: a5 :: a6 :: a7 :: a8 :: a9 :: some x :: ρ := .succ (.succ (.succ (.succ (.succ (.succ (.succ (.succ (.succ (.succ (.zero))))))))))
theorem setR11 {a0 a1 a2 a3 a4 a5 a6 a7 a8 a9 a10 a11 : Option PV} {ρ : Env'} : SetR (a0 :: a1 :: a2 :: a3 :: a4 :: a5 :: a6 :: a7 :: a8 :: a9 :: a10 :: a11 :: ρ) 11 fun x => a0 :: a1 :: a2 :: a3 :: a4 :: a5 :: a6 :: a7 :: a8 :: a9 :: a10 :: some x :: ρ := .succ (.succ (.succ (.succ (.succ (.succ (.succ (.succ (.succ (.succ (.succ (.zero)))))))))))
theorem setR12 {a0 a1 a2 a3 a4 a5 a6 a7 a8 a9 a10 a11 a12 : Option PV} {ρ : Env'} : SetR (a0 :: a1 :: a2 :: a3 :: a4 :: a5 :: a6 :: a7 :: a8 :: a9 :: a10 :: a11 :: a12 :: ρ) 12 fun x => a0 :: a1 :: a2 :: a3 :: a4 :: a5 :: a6 :: a7 :: a8 :: a9 :: a10 :: a11 :: some x :: ρ := .succ (.succ (.succ (.succ (.succ (.succ (.succ (.succ (.succ (.succ (.succ (.succ (.zero))))))))))))
/-! ### loops that look for something -/
/-- what stands at the places L is put otherwise -/
def reset (ρ : Env') (L : List Nat) (g : Nat → Option PV) : Env' := L.foldl (fun ρ i => ρ.set i (g i)) ρ
/-- alike but for the places L -/
def Off (L : List Nat) (ρ ρ' : Env') : Prop := ρ' = reset ρ L fun i => ρ'.getD i none
theorem Off.refl (L : List Nat) (ρ : Env') : Off L ρ ρ := by
  have h : ∀ (L : List Nat) (ρ' : Env'), ρ' = ρ → reset ρ' L (fun i => ρ.getD i none) = ρ := by
    intro L
    induction L with
    | nil => exact fun _ h => h
    | cons i L ih =>
      intro ρ' e
      subst e
      refine ih _ ?_
      refine List.ext_getElem? fun j => ?_
      by_cases hj : j = i
      · subst hj
        by_cases hl : j < ρ'.length
        · rw [List.getElem?_set_self hl, List.getElem?_eq_getElem hl]; simp [hl]
        · rw [List.getElem?_eq_none_iff.mpr (by simp; omega), List.getElem?_eq_none_iff.mpr (by omega)]
      · rw [List.getElem?_set_ne (Ne.symm hj)]
  exact (h L ρ rfl).symm
section
variable {tg : Tgt} {b : TSt} {l : LI} {ρ : Env'} {S : Store} {Q : SR → Prop}
/-- what one turn of a loop that looks for something may end in -/
def Seek (m : List Nat) (ρ : Env') (S : Store) (o : Option PV) : SR → Prop
  | .nx ρ' T => T = S ∧ o = none ∧ Off m ρ ρ'
  | .cnt ρ' T => T = S ∧ o = none ∧ Off m ρ ρ'
  | .ret v T => T = S ∧ o = some v
  | _ => False
/-- a loop over things that stand for others, which changes nothing: it returns at the first one of which P tells something -/
theorem s_find {α : Type} (e : α → PV) (os : List α) (m : List Nat) (p : α → Option PV) (hl : l.1 = os.map e) (lk : lkI l S)
    (h : ∀ x ∈ os, ∀ g, Op (tg (e x) (reset ρ m g)) fun ρ1 => WS (b ρ1 S) (Seek m ρ S (p x)))
    (q1 : ∀ v, os.findSome? p = some v → Q (.ret v S)) (q2 : os.findSome? p = none → ∀ g, Q (.nx (reset ρ m g) S)) : WS (forL tg b l l.1 ρ S) Q := by
  refine s_loop (fun rest ρ' T => T = S ∧ Off m ρ ρ' ∧ ∃ (zs : List α), rest = zs.map e ∧ (∀ x ∈ zs, x ∈ os) ∧ zs.findSome? p = os.findSome? p) ⟨rfl, Off.refl m ρ, os, hl, fun _ h => h, rfl⟩ (fun x r ρ' T H => ?_) (fun ρ' T H => ?_)
  · obtain ⟨rfl, of, zs, hr, hz, hs⟩ := H
    refine ⟨lk, ?_⟩
    cases zs with
    | nil => cases hr
    | cons z zs =>
      simp only [List.map_cons, List.cons.injEq] at hr
      obtain ⟨rfl, rfl⟩ := hr
      have h := h z (hz z (by simp)) fun i => ρ'.getD i none
      rw [← show ρ' = reset ρ m fun i => ρ'.getD i none from of] at h
      cases ht : tg (e z) ρ' with
      | none => rw [ht] at h; exact h.elim
      | some ρ1 =>
        rw [ht] at h
        have h : Seek m ρ T (p z) (b ρ1 T) := h
        show TurnOk (b ρ1 T) _ _
        generalize b ρ1 T = o at *
        cases o with
        | nx ρ2 U =>
          obtain ⟨rfl, hp, of2⟩ := h
          exact ⟨rfl, of2, zs, rfl, fun x hx => hz x (by simp [hx]), by rw [← hs, List.findSome?_cons, hp]⟩
        | cnt ρ2 U =>
          obtain ⟨rfl, hp, of2⟩ := h
          exact ⟨rfl, of2, zs, rfl, fun x hx => hz x (by simp [hx]), by rw [← hs, List.findSome?_cons, hp]⟩
        | ret v U =>
          obtain ⟨rfl, hp⟩ := h
          exact q1 v (by rw [← hs, List.findSome?_cons, hp])
        | brk ρ2 U => exact h.elim
        | exc x ρ2 U => exact h.elim
        | bad => exact h.elim
  · obtain ⟨rfl, of, zs, hr, hz, hs⟩ := H
    refine ⟨lk, ?_⟩
    cases zs with
    | cons z zs => cases hr
    | nil =>
      have q := q2 (by rw [← hs]; rfl) fun i => ρ'.getD i none
      rw [← show ρ' = reset ρ m fun i => ρ'.getD i none from of] at q
      exact q
/-- a loop that says False at the first thing that isn't right -/
theorem s_all {α : Type} (e : α → PV) (os : List α) (m : List Nat) (hl : l.1 = os.map e) (lk : lkI l S)
    (h : ∀ x ∈ os, ∀ g, Op (tg (e x) (reset ρ m g)) fun ρ1 => WS (b ρ1 S) (Seek m ρ S none))
    (q : ∀ g, Q (.nx (reset ρ m g) S)) : WS (forL tg b l l.1 ρ S) Q :=
  s_find e os m (fun _ => none) hl lk h (fun v hv => by
    have : os.findSome? (fun _ => (none : Option PV)) = none := List.findSome?_eq_none_iff.mpr fun _ _ => rfl
    rw [this] at hv; cases hv) fun _ => q
theorem seek_nx {m : List Nat} {ρ' : Env'} {o : Option PV} (h0 : o = none) (h : Off m ρ ρ') : Seek m ρ S o (.nx ρ' S) := ⟨rfl, h0, h⟩
theorem seek_cnt {m : List Nat} {ρ' : Env'} {o : Option PV} (h0 : o = none) (h : Off m ρ ρ') : Seek m ρ S o (.cnt ρ' S) := ⟨rfl, h0, h⟩
theorem seek_ret {m : List Nat} {v : PV} {o : Option PV} (h : o = some v) : Seek m ρ S o (.ret v S) := ⟨rfl, h⟩
end
local macro_rules | `(tactic| walk_at "w") => `(tactic| first
  | (with_reducible apply s_set; focus (repeat first | exact SetR.zero | apply SetR.succ))
  | (with_reducible apply w_get; focus (repeat first | exact GetR.zero | apply GetR.succ))
  | with_reducible first
  | refine s_seqN ?_ | refine s_seq ?_ | refine q_nx ?_ | refine q_ret ?_ | refine q_brk ?_ | refine q_cnt ?_ | refine q_exc ?_
  | refine s_nil ?_ | refine s_pass ?_ | refine s_brk ?_ | refine s_cnt ?_ | refine s_expr ?_ | refine s_ret ?_ | refine s_retN ?_ | refine s_if ?_ | refine s_unp ?_ | refine s_sub ?_ | refine s_for ?_
  | refine w_c ?_ | (refine w_str ?_ ?_; decide +kernel) | refine w_bin ?_ | refine w_un ?_ | refine w_chn ?_ | refine w_bV ?_ | refine w_bBl ?_ | refine w_bAnd ?_ | refine w_bOr ?_ | refine w_bNot ?_ | refine w_bYes ?_
  | refine w_vAnd ?_ | refine w_vOr ?_ | refine w_vNot ?_ | refine w_vIf ?_ | refine w_nil ?_ | refine w_cons ?_ | refine w_tup ?_ | refine w_disp ?_ | refine w_new ?_ | refine lnew ?_ | refine w_oNone ?_ | refine w_oSome ?_ | refine w_slc ?_ | refine w_lslc ?_ | refine slcT ?_ | refine slcS ?_
  | refine w_call ?_ | refine w_callL ?_ | refine w_lcallL ?_ | refine w_lcallN ?_ | refine w_isi ?_ | refine w_app ?_ | refine w_app0 ?_ | refine w_lval ?_ | refine w_cat ?_ | refine w_eqL ?_ | refine w_lm ?_ | refine w_ext ?_ | refine w_sm ?_ | refine w_sm0 ?_ | refine w_lsm ?_ | refine w_smL ?_ | refine w_dic0 ?_ | refine w_dic1 ?_ | refine w_iV ?_ | refine w_iL ?_ | refine il_none ?_ | refine il_some ?_ | refine w_rng ?_ | refine w_comp ?_ | refine w_rev ?_ | refine w_lenSet ?_ | refine w_extV ?_
  | refine o_addI ?_ | refine o_iadd ?_ | refine o_sub ?_ | refine o_neg ?_ | refine o_ltI ?_ | refine o_le ?_ | refine o_gt ?_ | refine o_ge ?_ | refine o_is ?_ | refine o_isNot ?_ | refine o_lenT ?_ | refine o_lenF ?_ | refine o_lenS ?_ | refine o_intB ?_ | refine o_intI ?_ | refine o_max ?_ | refine o_min ?_ | refine o_tupT ?_ | refine o_eqI ?_ | refine o_eqS ?_ | refine o_eqB ?_
  | refine b_is ?_ | refine i_is ?_ | refine s_is ?_ | refine i_tup ?_ | refine i_str ?_ | refine tr_bl ?_ | refine ty_bl ?_ | refine ty_str ?_ | refine ty_tup ?_ | refine ty_int ?_ | refine k_s ?_ | refine k_i ?_
  | refine Br.tt ?_ | refine Br.ff ?_ | refine Br.nf ?_ | refine Br.nt ?_ | refine f_ret ?_ | refine f_nx ?_ | refine f_body ?_)
/-! ### tests of the wider walk -/
local macro_rules | `(tactic| walk_at "sget") => `(tactic| first
  | assumption | exact get_app _ _ _ | exact trivial
  | (refine get_set ?_; walk_at "sget") | (refine get_app_lt ?_; walk_at "sget"))
local macro_rules | `(tactic| walk_at "len") => `(tactic| first
  | exact Nat.zero_le _ | exact len_le rfl
  | (have hbig := sizeLine_eq; simp only [List.length_map, List.length_cons, List.length_nil, List.length_append, List.length_take, List.length_drop, List.length_reverse, List.length_set, List.length_range]; omega))
local macro_rules | `(tactic| walk_at "off") => `(tactic| focus rfl)
local macro_rules | `(tactic| walk_at "e") => `(tactic| simp only [wipeE, reset, List.foldl_cons, List.foldl_nil, List.set_cons_succ, List.set_cons_zero])
local macro_rules | `(tactic| walk_at "kp") => `(tactic| first | assumption | exact Kp.refl _ | exact Kp.app _ _ | (refine Kp.trans ?_ (Kp.app _ _); walk_at "kp"))
local macro_rules | `(tactic| walk_at "set") => `(tactic| first | exact setR0 | exact setR1 | exact setR2 | exact setR3 | exact setR4 | exact setR5 | exact setR6 | exact setR7 | exact setR8 | exact setR9 | exact setR10 | exact setR11 | exact setR12 | (repeat first | exact SetR.zero | apply SetR.succ))
local macro_rules | `(tactic| walk_at "f") => `(tactic| fail)
local macro_rules | `(tactic| walk_at "x") => `(tactic| first
  | ((with_reducible show W _ _ _); first
    | ((with_reducible apply w_var); (focus exact rfl))
    | with_reducible first | refine w_c ?_ | refine w_cons ?_ | refine w_nil ?_ | refine w_bin ?_ | refine w_app ?_ | refine w_call ?_ | refine w_tup ?_ | refine w_bBl ?_ | refine w_new ?_ | refine w_iV ?_ | refine w_comp ?_ | refine w_iL ?_ | refine w_bV ?_ | refine w_disp ?_ | refine w_vAnd ?_ | refine w_vOr ?_ | refine w_bAnd ?_ | refine w_bOr ?_ | refine w_bNot ?_ | refine w_bYes ?_ | refine w_isi ?_ | refine w_callL ?_ | refine w_lval ?_ | refine w_lm ?_ | refine w_chn ?_ | refine w_un ?_ | refine w_oNone ?_ | refine w_oSome ?_ | refine w_slc ?_ | refine w_lslc ?_ | refine w_rng ?_ | refine w_vNot ?_ | refine w_vIf ?_ | refine w_cat ?_ | refine w_eqL ?_ | refine w_lenSet ?_ | refine w_app0 ?_ | refine w_extV ?_ | refine w_ext ?_ | refine w_lcallL ?_ | refine w_lcallN ?_ | refine w_sm ?_ | refine w_sm0 ?_ | refine w_lsm ?_ | refine w_smL ?_ | refine w_dic0 ?_ | refine w_dic1 ?_ | refine w_rev ?_ | refine f_ret ?_ | refine f_nx ?_
    | ((with_reducible refine g_keep ?_ ?_ ?_); (focus walk_at "kp"); (focus rfl))
    | (with_reducible refine w_str ?_ ?_; decide +kernel)
    | walk_at "f"
    | with_reducible refine f_body ?_)
  | ((with_reducible show WS _ _); first
    | with_reducible first | refine s_seqN ?_ | refine s_seq ?_ | refine q_nx ?_
    | ((with_reducible apply s_set); (focus walk_at "set"))
    | with_reducible first | refine s_expr ?_ | refine s_ret ?_ | refine s_if ?_ | refine s_nil ?_ | refine q_ret ?_ | refine s_unp ?_ | refine s_sub ?_ | refine s_for ?_ | refine q_cnt ?_ | refine q_brk ?_ | refine q_exc ?_ | refine s_retN ?_ | refine s_cnt ?_ | refine s_brk ?_ | refine s_pass ?_)
  | ((with_reducible show Op _ _); first
    | ((with_reducible apply t_n); (focus walk_at "set"))
    | with_reducible first
      | refine t_cons ?_ | refine t_nil ?_ | refine t_tup ?_ | refine i_tup ?_
      | refine o_lenT ?_
      | refine o_eqS ?_ | refine o_eqI ?_ | refine o_eqB ?_ | refine o_neI ?_ | refine o_neS ?_ | refine o_neB ?_ | refine o_is ?_ | refine o_isNot ?_ | refine o_isT ?_ | refine o_isNT ?_ | refine o_isF ?_ | refine o_isNF ?_
      | refine o_addI ?_ | refine o_sub ?_ | refine o_neg ?_ | refine o_ltI ?_ | refine o_le ?_ | refine o_gt ?_ | refine o_ge ?_ | refine o_iadd ?_
      | refine tr_bl ?_ | refine ty_bl ?_ | refine ty_str ?_ | refine ty_tup ?_ | refine ty_int ?_ | refine o_tupT ?_
      | refine o_lenF ?_ | refine o_lenS ?_ | refine o_intB ?_ | refine o_intI ?_ | refine o_max ?_ | refine o_min ?_ | refine i_str ?_ | refine k_s ?_ | refine k_i ?_
    | ((with_reducible apply o_idxT); (focus first | exact at0 _ _ | exact at1 _ _ _ | exact at2 _ _ _ _ | exact at3 _ _ _ _ _))
    | ((with_reducible apply i_ref); (focus walk_at "sget"))
    | ((with_reducible apply o_getL); (focus walk_at "sget"))
    | ((with_reducible apply o_lenR); (focus walk_at "sget"))
    | ((with_reducible apply o_idxR); (focus walk_at "sget"); (focus first | exact at0 _ _ | exact at1 _ _ _ | exact at2 _ _ _ _))
    | ((with_reducible apply o_tupR); (focus walk_at "sget"))
    | ((with_reducible apply o_listR); (focus walk_at "sget"))
    | ((with_reducible refine o_mod ?_ ?_); (focus omega))
    | ((with_reducible refine o_div ?_ ?_); (focus omega))
    | ((with_reducible refine o_pow ?_ ?_); (focus decide))
    | ((with_reducible refine o_app ?_ ?_); (focus walk_at "len"))
    | walk_at "f")
  | with_reducible first | refine b_is ?_ | refine i_is ?_ | refine s_is ?_ | refine Br.tt ?_ | refine Br.ff ?_ | refine Br.nf ?_ | refine Br.nt ?_ | refine lnew ?_ | refine il_none ?_ | refine il_some ?_ | refine revT ?_ | refine slcT ?_ | refine slcS ?_
  | ((with_reducible refine Br.of_tt ?_ ?_); focus (first | assumption | rfl | exact beq_self_eq_true _ | (simp only [decide_eq_true_eq]; omega)))
  | ((with_reducible refine Br.of_ff ?_ ?_); focus (first | assumption | rfl | (rw [beq_self_eq_true]; rfl) | (simp only [decide_eq_false_iff_not]; omega)))
  | ((with_reducible refine And.intro ?_ ?_); (focus first | ((with_reducible show _ ≤ sizeLine); walk_at "len") | ((with_reducible show lkOk _ _); walk_at "sget")))
  | ((with_reducible refine seek_nx ?_ ?_); (focus rfl); walk_at "off") | ((with_reducible refine seek_cnt ?_ ?_); (focus rfl); walk_at "off") | ((with_reducible refine seek_ret ?_); focus rfl))
local macro_rules | `(tactic| walk_at "b") => `(tactic| with_reducible first | refine b_is ?_ | refine Br.tt ?_ | refine Br.ff ?_ | refine Br.nf ?_ | refine Br.nt ?_ | refine tr_bl ?_)
local macro_rules | `(tactic| walk_at "y") => `(tactic| (fail_if_success (with_reducible refine s_if ?_)); walk_at "x")
end Ev

/-! Fw36: kinds that are drawn are kinds, books of them are books. -/
namespace Ev
open PySem PySem.Spec PyProof.Rows L2 SX
/-- a kind, as data -/
abbrev Kind := Str × List State
def eKd (k : Kind) : PV := eK k.1 k.2
def eBk (b : List Kind) : PV := .tup (b.map eKd)
/-- what the drawing tells of a kind -/
structure kindOk (ws ks : List Str) (k : Kind) : Prop where
  nm : k.1 ∈ ws
  ne : k.2 ≠ []
  le : k.2.length ≤ 8
  nd : (k.2.map (·.1)).Nodup
  st : ∀ s ∈ k.2, s.1 ∈ ws ∧ stateOk ws (k.2.map (·.1)) ks s
theorem outs2_eSt (s : State) : outsOf2 (eSt s) = (s.2.2.flatMap (·.2)).map eOut := by
  show (s.2.2.map eDeed).flatMap outsOf1 = _
  rw [List.flatMap_map, List.map_flatMap]
  rfl
theorem outs3_eKd (k : Kind) : outsOf3 (eKd k) = (k.2.flatMap fun s => s.2.2.flatMap (·.2)).map eOut := by
  show (k.2.map eSt).flatMap outsOf2 = _
  rw [List.flatMap_map, List.map_flatMap]
  congr 1
  funext s
  exact outs2_eSt s
theorem hd_eSt (sts : List State) : (sts.map eSt).map hdN = sts.map (·.1) := by rw [List.map_map]; rfl
theorem hd_eKd (b : List Kind) : (b.map eKd).map hdN = b.map (·.1) := by rw [List.map_map]; rfl
theorem mem_outs {k : Kind} {o : Out} (h : o ∈ k.2.flatMap fun s => s.2.2.flatMap (·.2)) : ∃ s ∈ k.2, ∃ d ∈ s.2.2, o ∈ d.2 := by
  obtain ⟨s, hs, h⟩ := List.mem_flatMap.mp h
  obtain ⟨d, hd, h⟩ := List.mem_flatMap.mp h
  exact ⟨s, hs, d, hd, h⟩
theorem kindOk.out {ws ks : List Str} {k : Kind} (h : kindOk ws ks k) {o : Out} (ho : o ∈ k.2.flatMap fun s => s.2.2.flatMap (·.2)) : outOk ws (k.2.map (·.1)) ks o := by
  obtain ⟨s, hs, d, hd, h1⟩ := mem_outs ho
  exact ((h.st s hs).2.2.2 d hd).2.2.2.2 o h1
theorem kind_ok {ws ks : List Str} (hw : allN ws) (hk : allN ks) {k : Kind} (h : kindOk ws ks k) : sKind (eKd k) = true := by
  show (nm (.str k.1) && ((decide (1 ≤ (k.2.map eSt).length) && decide ((k.2.map eSt).length ≤ 8)) && ((k.2.map eSt).all sState && (decide ((k.2.map eSt).map hdN).Nodup && ((k.2.map eSt).flatMap outsOf2).all (thereOk ((k.2.map eSt).map hdN)))))) = true
  have l : 1 ≤ k.2.length := by
    have := h.ne
    cases hd : k.2 with
    | nil => exact absurd hd this
    | cons a b => simp
  have hs : allN (k.2.map (·.1)) := fun z hz => by
    obtain ⟨s, hs, rfl⟩ := List.mem_map.mp hz
    exact hw _ (h.st s hs).1
  have a : (k.2.map eSt).all sState = true := List.all_eq_true.mpr fun x hx => by
    obtain ⟨s, hs', rfl⟩ := List.mem_map.mp hx
    exact state_ok hw hs hk (h.st s hs').1 (h.st s hs').2
  have c : ((k.2.map eSt).flatMap outsOf2).all (thereOk (k.2.map (·.1))) = true := by
    rw [show (k.2.map eSt).flatMap outsOf2 = _ from outs3_eKd k]
    refine List.all_eq_true.mpr fun x hx => ?_
    obtain ⟨o, ho, rfl⟩ := List.mem_map.mp hx
    have := (h.out ho).2.1
    unfold eOut
    cases e : o.2.1 with
    | none => rfl
    | some z => exact decide_eq_true (this z e)
  rw [hd_eSt, hw _ h.nm, a, c, List.length_map, decide_eq_true l, decide_eq_true h.le, decide_eq_true h.nd]; rfl
theorem made_ok {ws ks : List Str} {k : Kind} (h : kindOk ws ks k) : (outsOf3 (eKd k)).all (madeOk ks) = true := by
  rw [outs3_eKd]
  refine List.all_eq_true.mpr fun x hx => ?_
  obtain ⟨o, ho, rfl⟩ := List.mem_map.mp hx
  have := (h.out ho).2.2
  unfold eOut
  cases e : o.2.2 with
  | none => rfl
  | some z => exact decide_eq_true (this z e)
theorem dat_Kd (k : Kind) : (eKd k).dat = true := dat_K _ _
theorem dep_St (s : State) : (eSt s).dep ≤ 5 := by
  have := dep_Deeds s.2.2
  simp only [eSt, PV.dep, PV.deps] at this ⊢
  omega
theorem dep_Kd (k : Kind) : (eKd k).dep ≤ 7 := by
  have : PV.deps (k.2.map eSt) ≤ 5 := deps_le fun x hx => by obtain ⟨s, _, rfl⟩ := List.mem_map.mp hx; exact dep_St s
  simp only [eKd, eK, PV.dep, PV.deps]
  omega
mutual
theorem tyD_dat (S0 : Store) : ∀ x : PV, x.dat = true → tyD S0 x
  | .non, _ => trivial
  | .bl _, _ => trivial
  | .int _, _ => trivial
  | .str _, _ => trivial
  | .tup xs, h => tyDs_dat S0 xs h
  | .frl xs, h => trivial
  | .ref _, h => by cases h
theorem tyDs_dat (S0 : Store) : ∀ xs : List PV, PV.dats xs = true → tyDs S0 xs
  | [], _ => trivial
  | x :: xs, h => by
    rw [PV.dats, Bool.and_eq_true] at h
    exact ⟨tyD_dat S0 x h.1, tyDs_dat S0 xs h.2⟩
end
theorem dat_Bk (b : List Kind) : (eBk b).dat = true := dats_iff.mpr fun x hx => by obtain ⟨o, _, rfl⟩ := List.mem_map.mp hx; exact dat_Kd o
/-- of a thing with all that is beneath it as it was drawn -/
theorem low_Kd (n : Nat) (k : Kind) : (eKd k).low n = true := low_dat _ _ (dat_Kd k)
end Ev

/-! Fw37 -/
namespace Ev
open PySem PySem.Spec PyProof.Rows L2 SX
local macro_rules | `(tactic| walk_at "w") => `(tactic| first
  | (with_reducible apply s_set; focus (repeat first | exact SetR.zero | apply SetR.succ))
  | (with_reducible apply w_get; focus (repeat first | exact GetR.zero | apply GetR.succ))
  | with_reducible first
  | refine s_seqN ?_ | refine s_seq ?_ | refine q_nx ?_ | refine q_ret ?_ | refine q_brk ?_ | refine q_cnt ?_ | refine q_exc ?_
  | refine s_nil ?_ | refine s_pass ?_ | refine s_brk ?_ | refine s_cnt ?_ | refine s_expr ?_ | refine s_ret ?_ | refine s_retN ?_ | refine s_if ?_ | refine s_unp ?_ | refine s_sub ?_ | refine s_for ?_
  | refine w_c ?_ | (refine w_str ?_ ?_; decide +kernel) | refine w_bin ?_ | refine w_un ?_ | refine w_chn ?_ | refine w_bV ?_ | refine w_bBl ?_ | refine w_bAnd ?_ | refine w_bOr ?_ | refine w_bNot ?_ | refine w_bYes ?_
  | refine w_vAnd ?_ | refine w_vOr ?_ | refine w_vNot ?_ | refine w_vIf ?_ | refine w_nil ?_ | refine w_cons ?_ | refine w_tup ?_ | refine w_disp ?_ | refine w_new ?_ | refine lnew ?_ | refine w_oNone ?_ | refine w_oSome ?_ | refine w_slc ?_ | refine w_lslc ?_ | refine slcT ?_ | refine slcS ?_
  | refine w_call ?_ | refine w_callL ?_ | refine w_lcallL ?_ | refine w_lcallN ?_ | refine w_isi ?_ | refine w_app ?_ | refine w_app0 ?_ | refine w_lval ?_ | refine w_cat ?_ | refine w_eqL ?_ | refine w_lm ?_ | refine w_ext ?_ | refine w_sm ?_ | refine w_sm0 ?_ | refine w_lsm ?_ | refine w_smL ?_ | refine w_dic0 ?_ | refine w_dic1 ?_ | refine w_iV ?_ | refine w_iL ?_ | refine il_none ?_ | refine il_some ?_ | refine w_rng ?_ | refine w_comp ?_ | refine w_rev ?_ | refine w_lenSet ?_ | refine w_extV ?_
  | refine o_addI ?_ | refine o_iadd ?_ | refine o_sub ?_ | refine o_neg ?_ | refine o_ltI ?_ | refine o_le ?_ | refine o_gt ?_ | refine o_ge ?_ | refine o_is ?_ | refine o_isNot ?_ | refine o_lenT ?_ | refine o_lenF ?_ | refine o_lenS ?_ | refine o_intB ?_ | refine o_intI ?_ | refine o_max ?_ | refine o_min ?_ | refine o_tupT ?_ | refine o_eqI ?_ | refine o_eqS ?_ | refine o_eqB ?_
  | refine b_is ?_ | refine i_is ?_ | refine s_is ?_ | refine i_tup ?_ | refine i_str ?_ | refine tr_bl ?_ | refine ty_bl ?_ | refine ty_str ?_ | refine ty_tup ?_ | refine ty_int ?_ | refine k_s ?_ | refine k_i ?_
  | refine Br.tt ?_ | refine Br.ff ?_ | refine Br.nf ?_ | refine Br.nt ?_ | refine f_ret ?_ | refine f_nx ?_ | refine f_body ?_)
local macro_rules | `(tactic| walk_at "sget") => `(tactic| first
  | assumption | exact get_app _ _ _ | exact trivial
  | (refine get_set ?_; walk_at "sget") | (refine get_app_lt ?_; walk_at "sget"))
local macro_rules | `(tactic| walk_at "len") => `(tactic| first
  | exact Nat.zero_le _ | exact len_le rfl
  | (have hbig := sizeLine_eq; simp only [List.length_map, List.length_cons, List.length_nil, List.length_append, List.length_take, List.length_drop, List.length_reverse, List.length_set, List.length_range]; omega))
local macro_rules | `(tactic| walk_at "off") => `(tactic| focus rfl)
local macro_rules | `(tactic| walk_at "e") => `(tactic| simp only [wipeE, reset, List.foldl_cons, List.foldl_nil, List.set_cons_succ, List.set_cons_zero])
local macro_rules | `(tactic| walk_at "kp") => `(tactic| first | assumption | exact Kp.refl _ | exact Kp.app _ _ | (refine Kp.trans ?_ (Kp.app _ _); walk_at "kp"))
local macro_rules | `(tactic| walk_at "set") => `(tactic| first | exact setR0 | exact setR1 | exact setR2 | exact setR3 | exact setR4 | exact setR5 | exact setR6 | exact setR7 | exact setR8 | exact setR9 | exact setR10 | exact setR11 | exact setR12 | (repeat first | exact SetR.zero | apply SetR.succ))
local macro_rules | `(tactic| walk_at "f") => `(tactic| fail)
local macro_rules | `(tactic| walk_at "x") => `(tactic| first
  | ((with_reducible show W _ _ _); first
    | ((with_reducible apply w_var); (focus exact rfl))
    | with_reducible first | refine w_c ?_ | refine w_cons ?_ | refine w_nil ?_ | refine w_bin ?_ | refine w_app ?_ | refine w_call ?_ | refine w_tup ?_ | refine w_bBl ?_ | refine w_new ?_ | refine w_iV ?_ | refine w_comp ?_ | refine w_iL ?_ | refine w_bV ?_ | refine w_disp ?_ | refine w_vAnd ?_ | refine w_vOr ?_ | refine w_bAnd ?_ | refine w_bOr ?_ | refine w_bNot ?_ | refine w_bYes ?_ | refine w_isi ?_ | refine w_callL ?_ | refine w_lval ?_ | refine w_lm ?_ | refine w_chn ?_ | refine w_un ?_ | refine w_oNone ?_ | refine w_oSome ?_ | refine w_slc ?_ | refine w_lslc ?_ | refine w_rng ?_ | refine w_vNot ?_ | refine w_vIf ?_ | refine w_cat ?_ | refine w_eqL ?_ | refine w_lenSet ?_ | refine w_app0 ?_ | refine w_extV ?_ | refine w_ext ?_ | refine w_lcallL ?_ | refine w_lcallN ?_ | refine w_sm ?_ | refine w_sm0 ?_ | refine w_lsm ?_ | refine w_smL ?_ | refine w_dic0 ?_ | refine w_dic1 ?_ | refine w_rev ?_ | refine f_ret ?_ | refine f_nx ?_
    | ((with_reducible refine g_keep ?_ ?_ ?_); (focus walk_at "kp"); (focus rfl))
    | (with_reducible refine w_str ?_ ?_; decide +kernel)
    | walk_at "f"
    | with_reducible refine f_body ?_)
  | ((with_reducible show WS _ _); first
    | with_reducible first | refine s_seqN ?_ | refine s_seq ?_ | refine q_nx ?_
    | ((with_reducible apply s_set); (focus walk_at "set"))
    | with_reducible first | refine s_expr ?_ | refine s_ret ?_ | refine s_if ?_ | refine s_nil ?_ | refine q_ret ?_ | refine s_unp ?_ | refine s_sub ?_ | refine s_for ?_ | refine q_cnt ?_ | refine q_brk ?_ | refine q_exc ?_ | refine s_retN ?_ | refine s_cnt ?_ | refine s_brk ?_ | refine s_pass ?_)
  | ((with_reducible show Op _ _); first
    | ((with_reducible apply t_n); (focus walk_at "set"))
    | with_reducible first
      | refine t_cons ?_ | refine t_nil ?_ | refine t_tup ?_ | refine i_tup ?_
      | refine o_lenT ?_
      | refine o_eqS ?_ | refine o_eqI ?_ | refine o_eqB ?_ | refine o_neI ?_ | refine o_neS ?_ | refine o_neB ?_ | refine o_is ?_ | refine o_isNot ?_ | refine o_isT ?_ | refine o_isNT ?_ | refine o_isF ?_ | refine o_isNF ?_
      | refine o_addI ?_ | refine o_sub ?_ | refine o_neg ?_ | refine o_ltI ?_ | refine o_le ?_ | refine o_gt ?_ | refine o_ge ?_ | refine o_iadd ?_
      | refine tr_bl ?_ | refine ty_bl ?_ | refine ty_str ?_ | refine ty_tup ?_ | refine ty_int ?_ | refine o_tupT ?_
      | refine o_lenF ?_ | refine o_lenS ?_ | refine o_intB ?_ | refine o_intI ?_ | refine o_max ?_ | refine o_min ?_ | refine i_str ?_ | refine k_s ?_ | refine k_i ?_
    | ((with_reducible apply o_idxT); (focus first | exact at0 _ _ | exact at1 _ _ _ | exact at2 _ _ _ _ | exact at3 _ _ _ _ _))
    | ((with_reducible apply i_ref); (focus walk_at "sget"))
    | ((with_reducible apply o_getL); (focus walk_at "sget"))
    | ((with_reducible apply o_lenR); (focus walk_at "sget"))
    | ((with_reducible apply o_idxR); (focus walk_at "sget"); (focus first | exact at0 _ _ | exact at1 _ _ _ | exact at2 _ _ _ _))
    | ((with_reducible apply o_tupR); (focus walk_at "sget"))
    | ((with_reducible apply o_listR); (focus walk_at "sget"))
    | ((with_reducible refine o_mod ?_ ?_); (focus omega))
    | ((with_reducible refine o_div ?_ ?_); (focus omega))
    | ((with_reducible refine o_pow ?_ ?_); (focus decide))
    | ((with_reducible refine o_app ?_ ?_); (focus walk_at "len"))
    | walk_at "f")
  | with_reducible first | refine b_is ?_ | refine i_is ?_ | refine s_is ?_ | refine Br.tt ?_ | refine Br.ff ?_ | refine Br.nf ?_ | refine Br.nt ?_ | refine lnew ?_ | refine il_none ?_ | refine il_some ?_ | refine revT ?_ | refine slcT ?_ | refine slcS ?_
  | ((with_reducible refine Br.of_tt ?_ ?_); focus (first | assumption | rfl | exact beq_self_eq_true _ | (simp only [decide_eq_true_eq]; omega)))
  | ((with_reducible refine Br.of_ff ?_ ?_); focus (first | assumption | rfl | (rw [beq_self_eq_true]; rfl) | (simp only [decide_eq_false_iff_not]; omega)))
  | ((with_reducible refine And.intro ?_ ?_); (focus first | ((with_reducible show _ ≤ sizeLine); walk_at "len") | ((with_reducible show lkOk _ _); walk_at "sget")))
  | ((with_reducible refine seek_nx ?_ ?_); (focus rfl); walk_at "off") | ((with_reducible refine seek_cnt ?_ ?_); (focus rfl); walk_at "off") | ((with_reducible refine seek_ret ?_); focus rfl))
local macro_rules | `(tactic| walk_at "b") => `(tactic| with_reducible first | refine b_is ?_ | refine Br.tt ?_ | refine Br.ff ?_ | refine Br.nf ?_ | refine Br.nt ?_ | refine tr_bl ?_)
local macro_rules | `(tactic| walk_at "y") => `(tactic| (fail_if_success (with_reducible refine s_if ?_)); walk_at "x")
noncomputable def bKindOf : TSt :=   (sSeq (sFor (tgN 2) (iV (vVar 0)) (sSeq (sIf (bBl (vBin oEq (vBin oIdx (vVar 2) (vC (.int 0))) (vVar 1))) (sSeq (sRet (vVar 2)) sNil) sNil) sNil)) (sSeq (sRet (vC .non)) sNil))
noncomputable def bBook : TSt :=   (sSeq (sSet 3 (vBin oAdd (vC (.int 1)) (vApp (fnV 2 4 bTake) (vsCons (vVar 0) (vsCons (vC (.int 3)) vsNil))))) (sSeq (sIf (bBl (vBin oEq (vApp (fnV 2 4 bTake) (vsCons (vVar 0) (vsCons (vC (.int 8)) vsNil))) (vC (.int 5)))) (sSeq (sSet 3 (vC (.int 6))) sNil) sNil) (sSeq (sSet 4 (vApp (fnV 3 6 bSome) (vsCons (vVar 0) (vsCons (vVar 1) (vsCons (vVar 3) vsNil))))) (sSeq (sSet 2 (vBin oDiv (vVar 2) (vVar 3))) (sSeq (sRet (vCallL (fun xs => some (.tup xs)) (lComp (tgN 5) (iV (vVar 4)) bYes (vApp (fnV 5 10 bKind) (vsCons (vVar 0) (vsCons (vVar 1) (vsCons (vVar 5) (vsCons (vVar 4) (vsCons (vVar 2) vsNil)))))) [5]))) sNil)))))
noncomputable def bStatesL : TSt :=   (sSeq (sRet (vNew (lComp (tgT (tgCons (tgN 1) (tgCons (tgN 2) (tgCons (tgN 3) tgNil)))) (iV (vBin oIdx (vVar 0) (vC (.int 1)))) bYes (vVar 1) [1, 2, 3]))) sNil)
theorem w_fn {np nl : Nat} {b : TSt} {args : List PV} {S : Store} {Q : PV → Store → Prop} {E : PX → Store → Prop} (h : args.length = np) (q : WS (b (args.map some ++ List.replicate (nl - np) none) S) fun r => W (fin S r) Q E) : W (fnV np nl b args S) Q E := by
  rw [fnV_eq np nl b args S h]; exact q
theorem findSome_if {α : Type} (l : List α) (p : α → Bool) (f : α → PV) : (l.findSome? fun k => if p k then some (f k) else none) = (l.find? p).map f := by
  induction l with
  | nil => rfl
  | cons a l ih =>
    rw [List.findSome?_cons, List.find?_cons]
    cases h : p a
    · simp only [Bool.false_eq_true, if_false]; exact ih
    · simp
section
variable {Q : PV → Store → Prop} {E : PX → Store → Prop} {S0 : Store}
theorem kind_of_w {b : List Kind} {z : Str} (q : Q (match b.find? fun k => k.1 == z with | some k => eKd k | none => .non) S0) : W (fnV 2 3 bKindOf [eBk b, .str z] S0) Q E := by
  refine w_fn rfl ?_
  show WS (bKindOf [some (eBk b), some (.str z), none] S0) _
  unfold bKindOf eBk
  repeat walk_at "x"
  refine s_find eKd b [2] (fun k => if k.1 == z then some (eKd k) else none) rfl trivial (fun k hk g => ?_) (fun v hv => ?_) (fun hv g => ?_)
  · walk_at "e"
    repeat walk_at "x"
    unfold eKd eK
    repeat walk_at "x"
    cases h : k.1 == z
    · repeat walk_at "x"
    · repeat walk_at "x"
  · rw [findSome_if] at hv
    cases hf : b.find? (fun k => k.1 == z) with
    | none => rw [hf] at hv; cases hv
    | some k =>
      rw [hf] at hv q
      cases hv
      exact g_keepR (low_Kd _ _) q
  · rw [findSome_if] at hv
    cases hf : b.find? (fun k => k.1 == z) with
    | some k => rw [hf] at hv; cases hv
    | none =>
      rw [hf] at q
      walk_at "e"
      repeat walk_at "x"
      exact q
theorem states_w {k : Kind} (q : Q (.ref S0.length) (S0 ++ [.lst ((k.2.map (·.1)).map .str)])) : W (fnV 1 4 bStatesL [eKd k] S0) Q E := by
  refine w_fn rfl ?_
  show WS (bStatesL [some (eKd k), none, none, none] S0) _
  unfold bStatesL eKd eK
  repeat walk_at "x"
  simp only [wipeE, List.set_cons_succ, List.set_cons_zero]
  refine w_pureA (fun s : State => .str s.1) trivial (fun s _ => ?_) ?_
  · unfold eSt
    repeat walk_at "x"
    exact ⟨rfl, rfl⟩
  · repeat walk_at "x"
    refine g_new (Kp.app _ _) (Nat.le_refl _) (get_app _ _ _) ?_ ?_
    · rw [show (k.2.map fun s : State => PV.str s.1) = (k.2.map (·.1)).map PV.str from by rw [List.map_map]; rfl]
      exact lows_strs _ _
    · rw [List.map_map] at q; exact q
theorem book_w {i j : Nat} {mo : Int} {ws : List Str} (hmo : 0 ≤ mo) (hij : j ≠ i) (hw : HasW i S0) (hj : S0[j]? = some (.lst (ws.map .str))) (hwl : ws.length = 12) (nd : ws.Nodup)
    (q : ∀ (b : List Kind) (U : Store), b ≠ [] → b.length ≤ 6 → (b.map (·.1)).Nodup → (∀ z ∈ b.map (·.1), z ∈ ws) → (∀ k ∈ b, kindOk ws (b.map (·.1)) k) → Fr isWell i S0 U → U.length = S0.length → Q (eBk b) U) : W (fnV 3 6 bBook [.ref i, .ref j, .int mo] S0) Q E := by
  refine w_fn rfl ?_
  show WS (bBook [some (.ref i), some (.ref j), some (.int mo), none, none, none] S0) _
  unfold bBook
  have hi := hw.lt
  repeat walk_at "x"
  refine take_w hw (by omega) fun r1 T1 F1 u1 r10 r11 => ?_
  repeat walk_at "y"
  refine s_join (fun ρ T => ∃ m : Int, 1 ≤ m ∧ m ≤ 6 ∧ Fr isWell i S0 T ∧ T.length = S0.length ∧ ρ = [some (.ref i), some (.ref j), some (.int mo), some (.int m), none, none]) ?_ fun ρ T h => ?_
  · repeat walk_at "x"
    refine take_w F1.own (by omega) fun r2 T2 F2 u2 r20 r21 => ?_
    repeat walk_at "x"
    cases h5 : r2 == 5
    · repeat walk_at "x"
      exact ⟨1 + r1, by omega, by omega, F1.trans F2, by omega, rfl⟩
    · repeat walk_at "x"
      exact ⟨6, by omega, by omega, F1.trans F2, by omega, rfl⟩
  · obtain ⟨m, m1, m6, F, u, rfl⟩ := h
    repeat walk_at "x"
    refine some_k2 F.own hij (F.of hj hij) hwl nd ⟨by omega, by omega⟩ fun ns U F2 u2 hns nl nnd hin => ?_
    repeat walk_at "x"
    simp only [wipeE, List.set_cons_succ, List.set_cons_zero]
    have F3 := F.trans F2
    have hne : T.length ≠ i := by omega
    refine w_turns (fun rest acc V => Fr isWell i U V ∧ V.length = U.length ∧ ∃ (b : List Kind) (rs : List Str), acc = b.map eKd ∧ rest = rs.map .str ∧ b.map (·.1) ++ rs = ns ∧ ∀ k ∈ b, kindOk ws ns k) ⟨(Kp.refl U).fr F3.own, rfl, [], ns, rfl, rfl, rfl, by simp⟩ (fun x rest acc V h => ?_) (fun acc V h => ?_)
    · obtain ⟨FV, uV, b, rs, rfl, hr, hb, hk⟩ := h
      refine ⟨FV.of hns hne, ?_⟩
      cases rs with
      | nil => cases hr
      | cons z rs =>
        simp only [List.map_cons, List.cons.injEq] at hr
        obtain ⟨rfl, rfl⟩ := hr
        repeat walk_at "x"
        refine kind_w (Int.ediv_nonneg hmo (by omega)) hij (by omega) FV.own (FV.of (F3.of hj hij) hij) hwl nd (FV.of hns hne) (by omega) fun sts V2 ne snd sok sl F4 u4 => ?_
        refine ⟨FV.trans F4, by omega, b ++ [(z, sts)], rs, by simp [eKd], rfl, by simp [← hb], fun k hk' => ?_⟩
        rcases List.mem_append.mp hk' with h | h
        · exact hk k h
        · rw [List.mem_singleton.mp h]
          exact ⟨hin _ (by rw [← hb]; simp), ne, sl, snd, sok⟩
    · obtain ⟨FV, uV, b, rs, rfl, hr, hb, hk⟩ := h
      cases rs with
      | cons z rs => cases hr
      | nil =>
        rw [List.append_nil] at hb
        refine ⟨FV.of hns hne, ?_⟩
        repeat walk_at "x"
        refine g_fr (F3.trans FV) lowW hi (lows_iff.mpr fun o ho => ?_) fun U' F' u' => q b U' ?_ ?_ ?_ ?_ ?_ F' u'
        · obtain ⟨k, _, rfl⟩ := List.mem_map.mp ho
          exact low_Kd _ _
        · rintro rfl
          have := congrArg List.length hb
          simp at this
          omega
        · have := congrArg List.length hb
          simp at this
          omega
        · rw [hb]; exact nnd
        · rw [hb]; exact hin
        · rw [hb]; exact hk
end
end Ev

/-! Fw38 -/
namespace Ev
open PySem PySem.Spec PyProof.Rows L2 SX
local macro_rules | `(tactic| walk_at "w") => `(tactic| first
  | (with_reducible apply s_set; focus (repeat first | exact SetR.zero | apply SetR.succ))
  | (with_reducible apply w_get; focus (repeat first | exact GetR.zero | apply GetR.succ))
  | with_reducible first
  | refine s_seqN ?_ | refine s_seq ?_ | refine q_nx ?_ | refine q_ret ?_ | refine q_brk ?_ | refine q_cnt ?_ | refine q_exc ?_
  | refine s_nil ?_ | refine s_pass ?_ | refine s_brk ?_ | refine s_cnt ?_ | refine s_expr ?_ | refine s_ret ?_ | refine s_retN ?_ | refine s_if ?_ | refine s_unp ?_ | refine s_sub ?_ | refine s_for ?_
  | refine w_c ?_ | (refine w_str ?_ ?_; decide +kernel) | refine w_bin ?_ | refine w_un ?_ | refine w_chn ?_ | refine w_bV ?_ | refine w_bBl ?_ | refine w_bAnd ?_ | refine w_bOr ?_ | refine w_bNot ?_ | refine w_bYes ?_
  | refine w_vAnd ?_ | refine w_vOr ?_ | refine w_vNot ?_ | refine w_vIf ?_ | refine w_nil ?_ | refine w_cons ?_ | refine w_tup ?_ | refine w_disp ?_ | refine w_new ?_ | refine lnew ?_ | refine w_oNone ?_ | refine w_oSome ?_ | refine w_slc ?_ | refine w_lslc ?_ | refine slcT ?_ | refine slcS ?_
  | refine w_call ?_ | refine w_callL ?_ | refine w_lcallL ?_ | refine w_lcallN ?_ | refine w_isi ?_ | refine w_app ?_ | refine w_app0 ?_ | refine w_lval ?_ | refine w_cat ?_ | refine w_eqL ?_ | refine w_lm ?_ | refine w_ext ?_ | refine w_sm ?_ | refine w_sm0 ?_ | refine w_lsm ?_ | refine w_smL ?_ | refine w_dic0 ?_ | refine w_dic1 ?_ | refine w_iV ?_ | refine w_iL ?_ | refine il_none ?_ | refine il_some ?_ | refine w_rng ?_ | refine w_comp ?_ | refine w_rev ?_ | refine w_lenSet ?_ | refine w_extV ?_
  | refine o_addI ?_ | refine o_iadd ?_ | refine o_sub ?_ | refine o_neg ?_ | refine o_ltI ?_ | refine o_le ?_ | refine o_gt ?_ | refine o_ge ?_ | refine o_is ?_ | refine o_isNot ?_ | refine o_lenT ?_ | refine o_lenF ?_ | refine o_lenS ?_ | refine o_intB ?_ | refine o_intI ?_ | refine o_max ?_ | refine o_min ?_ | refine o_tupT ?_ | refine o_eqI ?_ | refine o_eqS ?_ | refine o_eqB ?_
  | refine b_is ?_ | refine i_is ?_ | refine s_is ?_ | refine i_tup ?_ | refine i_str ?_ | refine tr_bl ?_ | refine ty_bl ?_ | refine ty_str ?_ | refine ty_tup ?_ | refine ty_int ?_ | refine k_s ?_ | refine k_i ?_
  | refine Br.tt ?_ | refine Br.ff ?_ | refine Br.nf ?_ | refine Br.nt ?_ | refine f_ret ?_ | refine f_nx ?_ | refine f_body ?_)
local macro_rules | `(tactic| walk_at "sget") => `(tactic| first
  | assumption | exact get_app _ _ _ | exact trivial
  | (refine get_set ?_; walk_at "sget") | (refine get_app_lt ?_; walk_at "sget"))
local macro_rules | `(tactic| walk_at "len") => `(tactic| first
  | exact Nat.zero_le _ | exact len_le rfl
  | (have hbig := sizeLine_eq; simp only [List.length_map, List.length_cons, List.length_nil, List.length_append, List.length_take, List.length_drop, List.length_reverse, List.length_set, List.length_range]; omega))
local macro_rules | `(tactic| walk_at "off") => `(tactic| focus rfl)
local macro_rules | `(tactic| walk_at "e") => `(tactic| simp only [wipeE, reset, List.foldl_cons, List.foldl_nil, List.set_cons_succ, List.set_cons_zero])
local macro_rules | `(tactic| walk_at "kp") => `(tactic| first | assumption | exact Kp.refl _ | exact Kp.app _ _ | (refine Kp.trans ?_ (Kp.app _ _); walk_at "kp"))
local macro_rules | `(tactic| walk_at "set") => `(tactic| first | exact setR0 | exact setR1 | exact setR2 | exact setR3 | exact setR4 | exact setR5 | exact setR6 | exact setR7 | exact setR8 | exact setR9 | exact setR10 | exact setR11 | exact setR12 | (repeat first | exact SetR.zero | apply SetR.succ))
local macro_rules | `(tactic| walk_at "f") => `(tactic| fail)
local macro_rules | `(tactic| walk_at "x") => `(tactic| first
  | ((with_reducible show W _ _ _); first
    | ((with_reducible apply w_var); (focus exact rfl))
    | with_reducible first | refine w_c ?_ | refine w_cons ?_ | refine w_nil ?_ | refine w_bin ?_ | refine w_app ?_ | refine w_call ?_ | refine w_tup ?_ | refine w_bBl ?_ | refine w_new ?_ | refine w_iV ?_ | refine w_comp ?_ | refine w_iL ?_ | refine w_bV ?_ | refine w_disp ?_ | refine w_vAnd ?_ | refine w_vOr ?_ | refine w_bAnd ?_ | refine w_bOr ?_ | refine w_bNot ?_ | refine w_bYes ?_ | refine w_isi ?_ | refine w_callL ?_ | refine w_lval ?_ | refine w_lm ?_ | refine w_chn ?_ | refine w_un ?_ | refine w_oNone ?_ | refine w_oSome ?_ | refine w_slc ?_ | refine w_lslc ?_ | refine w_rng ?_ | refine w_vNot ?_ | refine w_vIf ?_ | refine w_cat ?_ | refine w_eqL ?_ | refine w_lenSet ?_ | refine w_app0 ?_ | refine w_extV ?_ | refine w_ext ?_ | refine w_lcallL ?_ | refine w_lcallN ?_ | refine w_sm ?_ | refine w_sm0 ?_ | refine w_lsm ?_ | refine w_smL ?_ | refine w_dic0 ?_ | refine w_dic1 ?_ | refine w_rev ?_ | refine f_ret ?_ | refine f_nx ?_
    | ((with_reducible refine g_keep ?_ ?_ ?_); (focus walk_at "kp"); (focus rfl))
    | (with_reducible refine w_str ?_ ?_; decide +kernel)
    | walk_at "f"
    | with_reducible refine f_body ?_)
  | ((with_reducible show WS _ _); first
    | with_reducible first | refine s_seqN ?_ | refine s_seq ?_ | refine q_nx ?_
    | ((with_reducible apply s_set); (focus walk_at "set"))
    | with_reducible first | refine s_expr ?_ | refine s_ret ?_ | refine s_if ?_ | refine s_nil ?_ | refine q_ret ?_ | refine s_unp ?_ | refine s_sub ?_ | refine s_for ?_ | refine q_cnt ?_ | refine q_brk ?_ | refine q_exc ?_ | refine s_retN ?_ | refine s_cnt ?_ | refine s_brk ?_ | refine s_pass ?_)
  | ((with_reducible show Op _ _); first
    | ((with_reducible apply t_n); (focus walk_at "set"))
    | with_reducible first
      | refine t_cons ?_ | refine t_nil ?_ | refine t_tup ?_ | refine i_tup ?_
      | refine o_lenT ?_
      | refine o_eqS ?_ | refine o_eqI ?_ | refine o_eqB ?_ | refine o_neI ?_ | refine o_neS ?_ | refine o_neB ?_ | refine o_is ?_ | refine o_isNot ?_ | refine o_isT ?_ | refine o_isNT ?_ | refine o_isF ?_ | refine o_isNF ?_
      | refine o_addI ?_ | refine o_sub ?_ | refine o_neg ?_ | refine o_ltI ?_ | refine o_le ?_ | refine o_gt ?_ | refine o_ge ?_ | refine o_iadd ?_
      | refine tr_bl ?_ | refine ty_bl ?_ | refine ty_str ?_ | refine ty_tup ?_ | refine ty_int ?_ | refine o_tupT ?_
      | refine o_lenF ?_ | refine o_lenS ?_ | refine o_intB ?_ | refine o_intI ?_ | refine o_max ?_ | refine o_min ?_ | refine i_str ?_ | refine k_s ?_ | refine k_i ?_
    | ((with_reducible apply o_idxT); (focus first | exact at0 _ _ | exact at1 _ _ _ | exact at2 _ _ _ _ | exact at3 _ _ _ _ _))
    | ((with_reducible apply i_ref); (focus walk_at "sget"))
    | ((with_reducible apply o_getL); (focus walk_at "sget"))
    | ((with_reducible apply o_lenR); (focus walk_at "sget"))
    | ((with_reducible apply o_idxR); (focus walk_at "sget"); (focus first | exact at0 _ _ | exact at1 _ _ _ | exact at2 _ _ _ _))
    | ((with_reducible apply o_tupR); (focus walk_at "sget"))
    | ((with_reducible apply o_listR); (focus walk_at "sget"))
    | ((with_reducible refine o_mod ?_ ?_); (focus omega))
    | ((with_reducible refine o_div ?_ ?_); (focus omega))
    | ((with_reducible refine o_pow ?_ ?_); (focus decide))
    | ((with_reducible refine o_app ?_ ?_); (focus walk_at "len"))
    | walk_at "f")
  | with_reducible first | refine b_is ?_ | refine i_is ?_ | refine s_is ?_ | refine Br.tt ?_ | refine Br.ff ?_ | refine Br.nf ?_ | refine Br.nt ?_ | refine lnew ?_ | refine il_none ?_ | refine il_some ?_ | refine revT ?_ | refine slcT ?_ | refine slcS ?_
  | ((with_reducible refine Br.of_tt ?_ ?_); focus (first | assumption | rfl | exact beq_self_eq_true _ | (simp only [decide_eq_true_eq]; omega)))
  | ((with_reducible refine Br.of_ff ?_ ?_); focus (first | assumption | rfl | (rw [beq_self_eq_true]; rfl) | (simp only [decide_eq_false_iff_not]; omega)))
  | ((with_reducible refine And.intro ?_ ?_); (focus first | ((with_reducible show _ ≤ sizeLine); walk_at "len") | ((with_reducible show lkOk _ _); walk_at "sget")))
  | ((with_reducible refine seek_nx ?_ ?_); (focus rfl); walk_at "off") | ((with_reducible refine seek_cnt ?_ ?_); (focus rfl); walk_at "off") | ((with_reducible refine seek_ret ?_); focus rfl))
local macro_rules | `(tactic| walk_at "b") => `(tactic| with_reducible first | refine b_is ?_ | refine Br.tt ?_ | refine Br.ff ?_ | refine Br.nf ?_ | refine Br.nt ?_ | refine tr_bl ?_)
local macro_rules | `(tactic| walk_at "y") => `(tactic| (fail_if_success (with_reducible refine s_if ?_)); walk_at "x")
noncomputable def bDeedTells : TSt :=   (sSeq (sSet 5 (vApp (fnV 3 5 bOutsOf) (vsCons (vVar 0) (vsCons (vVar 1) (vsCons (vVar 2) vsNil))))) (sSeq (sSet 6 (vNew (lComp (tgN 12) (iV (vVar 5)) (bAnd (bBl (vBin oEq (vBin oIdx (vVar 12) (vC (.int 1))) (vVar 1))) (bBl (vBin oIs (vBin oIdx (vVar 12) (vC (.int 2))) (vC .non)))) (vVar 12) [12]))) (sSeq (sIf (bOr (bBl (vBin oNe (vVar 5) (vVar 3))) (bBl (vBin oEq (vVar 5) (vTup vsNil)))) (sSeq (sRet (vC (.bl false))) sNil) sNil) (sSeq (sIf (bBl (vBin oNe (vApp (fnV 3 7 bOnlyLooks) (vsCons (vVar 0) (vsCons (vVar 1) (vsCons (vVar 2) vsNil)))) (vBin oEq (vCall fLen (vsCons (vVar 6) vsNil)) (vCall fLen (vsCons (vVar 5) vsNil))))) (sSeq (sRet (vC (.bl false))) sNil) sNil) (sSeq (sFor (tgT (tgCons (tgN 7) (tgCons (tgN 8) (tgCons (tgN 9) tgNil)))) (iV (vVar 5)) (sSeq (sIf (bOr (bBl (vBin oIsNotB (vApp (fnV 1 2 bIsName) (vsCons (vVar 7) vsNil)) (vC (.bl true)))) (bAnd (bBl (vBin oIsNot (vVar 8) (vC .non))) (bBl (vBin oNotIn (vVar 8) (vApp (fnV 1 4 bStatesL) (vsCons (vVar 0) vsNil)))))) (sSeq (sRet (vC (.bl false))) sNil) sNil) sNil)) (sSeq (sSet 10 (vNew (lComp (tgT (tgCons (tgN 11) (tgCons (tgN 13) tgNil))) (iV (vApp (fnV 2 2 bDeedsOf) (vsCons (vVar 0) (vsCons (vVar 1) vsNil)))) bYes (vVar 11) [11, 13]))) (sSeq (sFor (tgN 11) (iL (lComp (tgN 14) (iV (vVar 4)) (bBl (vBin oNotIn (vVar 14) (vVar 10))) (vVar 14) [14])) (sSeq (sIf (bOr (bBl (vBin oNe (vApp (fnV 3 5 bOutsOf) (vsCons (vVar 0) (vsCons (vVar 1) (vsCons (vVar 11) vsNil)))) (vTup vsNil))) (bBl (vBin oIsNotB (vApp (fnV 3 7 bOnlyLooks) (vsCons (vVar 0) (vsCons (vVar 1) (vsCons (vVar 11) vsNil)))) (vC (.bl false))))) (sSeq (sRet (vC (.bl false))) sNil) sNil) sNil)) (sSeq (sRet (vC (.bl true))) sNil))))))))
noncomputable def bStep : TSt :=   (sSeq (sSet 4 (vApp (fnV 2 3 bKindOf) (vsCons (vVar 1) (vsCons (vBin oIdx (vVar 2) (vC (.int 0))) vsNil)))) (sSeq (sIf (bOr (bBl (vBin oIs (vVar 4) (vC .non))) (bOr (bBl (vBin oNe (vBin oIdx (vVar 4) (vC (.int 0))) (vBin oIdx (vVar 2) (vC (.int 0))))) (bBl (vBin oNotIn (vBin oIdx (vVar 2) (vC (.int 1))) (vApp (fnV 1 4 bStatesL) (vsCons (vVar 4) vsNil)))))) (sSeq (sRet (vC .non)) sNil) sNil) (sSeq (sSet 5 (vApp (fnV 2 2 bDeedsOf) (vsCons (vVar 4) (vsCons (vBin oIdx (vVar 2) (vC (.int 1))) vsNil)))) (sSeq (sIf (bOr (bNot (bV (vIsi "bool" (vApp (fnV 2 2 bMayLeft) (vsCons (vVar 4) (vsCons (vBin oIdx (vVar 2) (vC (.int 1))) vsNil)))))) (bNot (bV (vIsi "tuple" (vVar 5))))) (sSeq (sRet (vC .non)) sNil) sNil) (sSeq (sIf (bBl (vBin oEq (vVar 5) (vTup vsNil))) (sSeq (sRet (vNew (lDisp vsNil))) sNil) sNil) (sSeq (sUnp (tgT (tgCons (tgN 6) (tgCons (tgN 7) tgNil))) (vBin oIdx (vVar 5) (vApp (fnV 2 4 bTake) (vsCons (vVar 0) (vsCons (vCall fLen (vsCons (vVar 5) vsNil)) vsNil))))) (sSeq (sIf (bNot (bV (vApp (fnV 5 15 bDeedTells) (vsCons (vVar 4) (vsCons (vBin oIdx (vVar 2) (vC (.int 1))) (vsCons (vVar 6) (vsCons (vVar 7) (vsCons (vVar 3) vsNil)))))))) (sSeq (sRet (vC .non)) sNil) sNil) (sSeq (sUnp (tgT (tgCons (tgN 8) (tgCons (tgN 9) (tgCons (tgN 10) tgNil)))) (vBin oIdx (vVar 7) (vApp (fnV 2 4 bTake) (vsCons (vVar 0) (vsCons (vCall fLen (vsCons (vVar 7) vsNil)) vsNil))))) (sSeq (sSet 11 (vNew (lDisp vsNil))) (sSeq (sIf (bBl (vBin oIsNot (vVar 9) (vC .non))) (sSeq (sExpr (vLm mAppend (vVar 11) (vsCons (vTup (vsCons (vBin oIdx (vVar 2) (vC (.int 0))) (vsCons (vVar 9) vsNil))) vsNil))) sNil) sNil) (sSeq (sIf (bBl (vBin oIsNot (vVar 10) (vC .non))) (sSeq (sIf (bBl (vBin oIs (vApp (fnV 2 3 bKindOf) (vsCons (vVar 1) (vsCons (vVar 10) vsNil))) (vC .non))) (sSeq (sRet (vC .non)) sNil) sNil) (sSeq (sExpr (vLm mAppend (vVar 11) (vsCons (vTup (vsCons (vVar 10) (vsCons (vApp (fnV 1 1 bFirst) (vsCons (vApp (fnV 2 3 bKindOf) (vsCons (vVar 1) (vsCons (vVar 10) vsNil))) vsNil)) vsNil))) vsNil))) sNil)) sNil) (sSeq (sRet (vVar 11)) sNil))))))))))))
noncomputable def bWalked : TSt :=   (sSeq (sSet 3 (vNew (lComp (tgN 7) (iV (vVar 1)) bYes (vTup (vsCons (vBin oIdx (vVar 7) (vC (.int 0))) (vsCons (vApp (fnV 1 1 bFirst) (vsCons (vVar 7) vsNil)) vsNil))) [7]))) (sSeq (sFor (tgN 4) (iRng (vsCons (vC (.int 30)) vsNil)) (sSeq (sIf (bBl (vEqL true (lVal (vVar 3)) (lDisp vsNil))) (sSeq (sSet 5 (vApp (fnV 2 4 bTake) (vsCons (vVar 0) (vsCons (vCall fLen (vsCons (vVar 3) vsNil)) vsNil)))) (sSeq (sSet 6 (vApp (fnV 4 12 bStep) (vsCons (vVar 0) (vsCons (vVar 1) (vsCons (vBin oIdx (vVar 3) (vVar 5)) (vsCons (vVar 2) vsNil)))))) (sSeq (sIf (bBl (vBin oIs (vVar 6) (vC .non))) (sSeq (sRet (vC (.bl false))) sNil) sNil) (sSeq (sSet 3 (vNew (lSlc (vNew (lCat (lCat (lSlc (vVar 3) oNone (oSome (vVar 5))) (lSlc (vVar 3) (oSome (vBin oAdd (vVar 5) (vC (.int 1)))) oNone)) (lVal (vVar 6)))) (oSome (vUn oNeg (vC (.int 12)))) oNone))) sNil)))) sNil) sNil)) (sSeq (sRet (vC (.bl true))) sNil)))
/-! loops that look for something, while things come -/
section
variable {tg : Tgt} {b : TSt} {l : LI} {ρ : Env'} {S : Store} {Q : SR → Prop}
def SeekK (m : List Nat) (ρ : Env') (S : Store) (o : Option PV) : SR → Prop
  | .nx ρ' T => Kp S T ∧ o = none ∧ Off m ρ ρ'
  | .cnt ρ' T => Kp S T ∧ o = none ∧ Off m ρ ρ'
  | .ret v T => Kp S T ∧ o = some v
  | _ => False
theorem s_findK {α : Type} (e : α → PV) (os : List α) (m : List Nat) (p : α → Option PV) (hl : l.1 = os.map e) (lk : lkI l S)
    (h : ∀ x ∈ os, ∀ g T, Kp S T → Op (tg (e x) (reset ρ m g)) fun ρ1 => WS (b ρ1 T) (SeekK m ρ T (p x)))
    (q1 : ∀ v T, Kp S T → os.findSome? p = some v → Q (.ret v T)) (q2 : os.findSome? p = none → ∀ g T, Kp S T → Q (.nx (reset ρ m g) T)) : WS (forL tg b l l.1 ρ S) Q := by
  have lk' : ∀ T, Kp S T → lkI l T := fun T k => by
    unfold lkI at *
    split
    · trivial
    · rename_i j xs hj
      rw [hj] at lk
      exact k.at lk
    · rename_i j xs i ys hj
      rw [hj] at lk
      exact ⟨k.at lk.1, k.at lk.2⟩
  refine s_loop (fun rest ρ' T => Kp S T ∧ Off m ρ ρ' ∧ ∃ (zs : List α), rest = zs.map e ∧ (∀ x ∈ zs, x ∈ os) ∧ zs.findSome? p = os.findSome? p) ⟨Kp.refl S, Off.refl m ρ, os, hl, fun _ h => h, rfl⟩ (fun x r ρ' T H => ?_) (fun ρ' T H => ?_)
  · obtain ⟨KT, of, zs, hr, hz, hs⟩ := H
    refine ⟨lk' T KT, ?_⟩
    cases zs with
    | nil => cases hr
    | cons z zs =>
      simp only [List.map_cons, List.cons.injEq] at hr
      obtain ⟨rfl, rfl⟩ := hr
      have h := h z (hz z (by simp)) (fun i => ρ'.getD i none) T KT
      rw [← show ρ' = reset ρ m fun i => ρ'.getD i none from of] at h
      cases ht : tg (e z) ρ' with
      | none => rw [ht] at h; exact h.elim
      | some ρ1 =>
        rw [ht] at h
        have h : SeekK m ρ T (p z) (b ρ1 T) := h
        show TurnOk (b ρ1 T) _ _
        generalize b ρ1 T = o at *
        cases o with
        | nx ρ2 U =>
          obtain ⟨KU, hp, of2⟩ := h
          exact ⟨KT.trans KU, of2, zs, rfl, fun x hx => hz x (by simp [hx]), by rw [← hs, List.findSome?_cons, hp]⟩
        | cnt ρ2 U =>
          obtain ⟨KU, hp, of2⟩ := h
          exact ⟨KT.trans KU, of2, zs, rfl, fun x hx => hz x (by simp [hx]), by rw [← hs, List.findSome?_cons, hp]⟩
        | ret v U =>
          obtain ⟨KU, hp⟩ := h
          exact q1 v U (KT.trans KU) (by rw [← hs, List.findSome?_cons, hp])
        | brk ρ2 U => exact h.elim
        | exc x ρ2 U => exact h.elim
        | bad => exact h.elim
  · obtain ⟨KT, of, zs, hr, hz, hs⟩ := H
    refine ⟨lk' T KT, ?_⟩
    cases zs with
    | cons z zs => cases hr
    | nil =>
      have q := q2 (by rw [← hs]; rfl) (fun i => ρ'.getD i none) T KT
      rw [← show ρ' = reset ρ m fun i => ρ'.getD i none from of] at q
      exact q
theorem s_allK {α : Type} (e : α → PV) (os : List α) (m : List Nat) (hl : l.1 = os.map e) (lk : lkI l S)
    (h : ∀ x ∈ os, ∀ g T, Kp S T → Op (tg (e x) (reset ρ m g)) fun ρ1 => WS (b ρ1 T) (SeekK m ρ T none))
    (q : ∀ g T, Kp S T → Q (.nx (reset ρ m g) T)) : WS (forL tg b l l.1 ρ S) Q :=
  s_findK e os m (fun _ => none) hl lk h (fun v T _ hv => by
    have : os.findSome? (fun _ => (none : Option PV)) = none := List.findSome?_eq_none_iff.mpr fun _ _ => rfl
    rw [this] at hv; cases hv) fun _ => q
end
section
variable {Q : PV → Store → Prop} {E : PX → Store → Prop} {S0 : Store}
theorem seekK_nx {S : Store} {m : List Nat} {ρ ρ' : Env'} {T : Store} {o : Option PV} (h0 : o = none) (k : Kp S T) (h : Off m ρ ρ') : SeekK m ρ S o (.nx ρ' T) := ⟨k, h0, h⟩
theorem outsOf_mem {ds : List Deed} {d : Deed} (h : d ∈ ds) (nd : (ds.map (·.1)).Nodup) : outsOf ds d.1 = d.2 := by
  unfold outsOf
  induction ds with
  | nil => cases h
  | cons t ts ih =>
    simp only [List.map_cons, List.nodup_cons, List.mem_map, not_exists, not_and] at nd
    rw [List.find?_cons]
    rcases List.mem_cons.mp h with rfl | h
    · simp
    · have : (t.1 == d.1) = false := by
        rw [beq_eq_false_iff_ne]
        intro e
        exact nd.1 d h e.symm
      rw [this]
      exact ih h nd.2
theorem outsOf_none {ds : List Deed} {z : Str} (h : z ∉ ds.map (·.1)) : outsOf ds z = [] := by
  unfold outsOf
  rw [List.find?_eq_none.mpr]
  · rfl
  · intro d hd e
    rw [beq_iff_eq] at e
    exact h (List.mem_map.mpr ⟨d, hd, e⟩)
theorem stOf_in {sts : List State} {z : Str} (h : z ∈ sts.map (·.1)) : stOf sts z ∈ sts ∧ (stOf sts z).1 = z := by
  unfold stOf
  cases e : sts.find? fun s => s.1 == z with
  | none =>
    obtain ⟨s, hs, rfl⟩ := List.mem_map.mp h
    have := List.find?_eq_none.mp e s hs
    simp at this
  | some s =>
    exact ⟨List.mem_of_find?_eq_some e, by simpa using List.find?_some e⟩
theorem filter_len {α : Type} (l : List α) (p : α → Bool) : decide ((l.filter p).length = l.length) = l.all p := by
  rw [Bool.eq_iff_iff, decide_eq_true_eq, List.length_filter_eq_length_iff, List.all_eq_true]
theorem deed_tells_w {j : Nat} {ws ks : List Str} {k : Kind} {z : Str} {d : Deed} (hj : S0[j]? = some (.lst (ws.map .str))) (hw : allN ws) (hk : kindOk ws ks k) (hz : z ∈ k.2.map (·.1)) (hd : d ∈ (stOf k.2 z).2.2)
    (q : Q (.bl true) S0) : W (fnV 5 15 bDeedTells [eKd k, .str z, .str d.1, eOuts d.2, .ref j] S0) Q E := by
  refine w_fn rfl ?_
  show WS (bDeedTells [some (eKd k), some (.str z), some (.str d.1), some (eOuts d.2), some (.ref j), none, none, none, none, none, none, none, none, none, none] S0) _
  unfold bDeedTells
  obtain ⟨hs, hs1⟩ := stOf_in hz
  obtain ⟨hsw, hsl, hsn, hsd⟩ := hk.st _ hs
  obtain ⟨hdw, hdne, hdl, hdn, hdo⟩ := hsd d hd
  have eo : outsOf (stOf k.2 z).2.2 d.1 = d.2 := outsOf_mem hd hsn
  repeat walk_at "x"
  refine outs_of_w ?_
  rw [eo]
  repeat walk_at "x"
  unfold eOuts
  repeat walk_at "x"
  simp only [wipeE, List.set_cons_succ, List.set_cons_zero]
  refine w_pureF (fun o => eOut o) (fun o => o.2.1 == some z && o.2.2.isNone) trivial (fun o _ => ?_) ?_
  · unfold eOut
    repeat walk_at "x"
    refine o_eq (eqS_O _ _) ?_
    repeat walk_at "x"
    cases h1 : o.2.1 == some z
    · repeat walk_at "x"
      exact ⟨⟨rfl, rfl⟩, fun h => by cases h⟩
    · repeat walk_at "x"
      rw [isNon_O]
      exact ⟨⟨by simp, rfl⟩, fun h => by repeat walk_at "x"; exact ⟨rfl, rfl⟩⟩
  repeat walk_at "x"
  refine o_ne (eqS_self rfl (dat_Outs _) (Nat.le_trans (dep_Outs _) (by omega))) ?_
  repeat walk_at "x"
  refine o_eq (eq_emptyT _) ?_
  rw [isEmpty_outs, show d.2.isEmpty = false from by cases h : d.2 with | nil => exact absurd h hdne | cons a b => rfl]
  repeat walk_at "x"
  refine only_looks_w ?_
  rw [eo]
  repeat walk_at "x"
  rw [show looks z d.2 = _ from rfl]
  repeat walk_at "x"
  have hne : d.2.isEmpty = false := by cases h : d.2 with | nil => exact absurd h hdne | cons a b => rfl
  refine Br.of_ff ?_ ?_
  · have e : (((d.2.filter fun o => o.2.1 == some z && o.2.2.isNone).length : Int) == (d.2.length : Int)) = d.2.all fun o => o.2.1 == some z && o.2.2.isNone := by
      rw [← filter_len, Bool.eq_iff_iff, beq_iff_eq, decide_eq_true_eq]; omega
    rw [List.length_map, List.length_map, e]
    unfold looks
    rw [hne]
    simp
  repeat walk_at "x"
  refine s_allK eOut d.2 [7, 8, 9] rfl trivial (fun o ho g T KT => ?_) fun g T KT => ?_
  · walk_at "e"
    unfold eOut
    repeat walk_at "x"
    refine is_name_w ⟨_, rfl⟩ ?_
    rw [hw _ (hdo o ho).1]
    repeat walk_at "x"
    rw [isNon_O]
    have h2 := (hdo o ho).2.1
    cases e : o.2.1 with
    | none =>
      refine Br.of_ff rfl ?_
      repeat walk_at "x"
      exact seekK_nx rfl (Kp.refl _) rfl
    | some y =>
      refine Br.of_tt rfl ?_
      unfold eO
      repeat walk_at "x"
      refine states_w ?_
      refine o_notIn (in_strs (get_app _ _ _) _) ?_
      rw [decide_eq_true (h2 y e)]
      repeat walk_at "x"
      exact seekK_nx rfl (Kp.app _ _) rfl
  walk_at "e"
  repeat walk_at "x"
  refine deeds_of_w ?_
  repeat walk_at "x"
  walk_at "e"
  refine w_pureA (fun d : Deed => .str d.1) trivial (fun d _ => ?_) ?_
  · unfold eDeed
    repeat walk_at "x"
    exact ⟨rfl, rfl⟩
  rw [show ((stOf k.2 z).2.2.map fun d : Deed => PV.str d.1) = ((stOf k.2 z).2.2.map (·.1)).map PV.str from by rw [List.map_map]; rfl]
  repeat walk_at "x"
  have K1 : Kp S0 T := (Kp.app S0 _).trans KT
  refine i_ref (get_app_lt (K1.at hj)) ?_
  walk_at "e"
  refine w_pureF (fun z : Str => .str z) (fun y => !decide (y ∈ (stOf k.2 z).2.2.map (·.1))) (get_app_lt (K1.at hj)) (fun y _ => ?_) ?_
  · repeat walk_at "x"
    refine o_notIn (in_strs (get_app _ _ _) _) ?_
    exact ⟨⟨rfl, rfl⟩, fun _ => by repeat walk_at "x"; exact ⟨rfl, rfl⟩⟩
  refine il_none ?_
  refine s_all PV.str (ws.filter fun y => !decide (y ∈ (stOf k.2 z).2.2.map (·.1))) [11] rfl trivial (fun y hy g => ?_) fun g => ?_
  · walk_at "e"
    have hy : y ∉ (stOf k.2 z).2.2.map (·.1) := by simpa using (List.mem_filter.mp hy).2
    repeat walk_at "x"
    refine outs_of_w ?_
    rw [outsOf_none hy]
    repeat walk_at "x"
    refine o_ne (eq_emptyT _) ?_
    repeat walk_at "x"
    refine only_looks_w ?_
    rw [outsOf_none hy]
    rw [show looks z [] = false from rfl]
    repeat walk_at "x"
  walk_at "e"
  repeat walk_at "x"
  exact q
/-- a thing: its kind's name, its state -/
def eTh (t : Str × Str) : PV := .tup [.str t.1, .str t.2]
def thOk (b : List Kind) (t : Str × Str) : Prop := ∃ k, b.find? (fun k => k.1 == t.1) = some k ∧ t.2 ∈ k.2.map (·.1)
theorem find_in {b : List Kind} {y : Str} (h : y ∈ b.map (·.1)) : ∃ k, b.find? (fun k => k.1 == y) = some k := by
  cases e : b.find? fun k => k.1 == y with
  | none =>
    obtain ⟨s, hs, rfl⟩ := List.mem_map.mp h
    have := List.find?_eq_none.mp e s hs
    simp at this
  | some k => exact ⟨k, rfl⟩
theorem find_at {b : List Kind} {y : Str} {k : Kind} (h : b.find? (fun k => k.1 == y) = some k) : k ∈ b ∧ k.1 = y := ⟨List.mem_of_find?_eq_some h, by simpa using List.find?_some h⟩
theorem kind_of_at {b : List Kind} {z : Str} {k : Kind} (h : b.find? (fun k => k.1 == z) = some k) (q : Q (eKd k) S0) : W (fnV 2 3 bKindOf [eBk b, .str z] S0) Q E := kind_of_w (by rw [h]; exact q)
theorem low_Ths (n : Nat) (ts : List (Str × Str)) : PV.lows n (ts.map eTh) = true := lows_iff.mpr fun o ho => by obtain ⟨k, _, rfl⟩ := List.mem_map.mp ho; rfl
theorem step_w {i j : Nat} {ws : List Str} {b : List Kind} {t : Str × Str} (hij : j ≠ i) (hw : HasW i S0) (hj : S0[j]? = some (.lst (ws.map .str))) (an : allN ws) (hb : ∀ k ∈ b, kindOk ws (b.map (·.1)) k) (ht : thOk b t)
    (q : ∀ (ts : List (Str × Str)) (U : Store), (∀ t ∈ ts, thOk b t) → ts.length ≤ 2 → Fr isWell i S0 U → U.length = S0.length + 1 → U[S0.length]? = some (.lst (ts.map eTh)) → Q (.ref S0.length) U) : W (fnV 4 12 bStep [.ref i, eBk b, eTh t, .ref j] S0) Q E := by
  refine w_fn rfl ?_
  show WS (bStep [some (.ref i), some (eBk b), some (eTh t), some (.ref j), none, none, none, none, none, none, none, none] S0) _
  unfold bStep eTh
  have hi := hw.lt
  obtain ⟨k, hk, hz⟩ := ht
  obtain ⟨tn, z⟩ := t
  obtain ⟨kb, kn⟩ := find_at hk
  simp only at kn hk hz ⊢
  subst kn
  have ok := hb k kb
  obtain ⟨hs, hs1⟩ := stOf_in hz
  obtain ⟨hsw, hsl, hsn, hsd⟩ := ok.st _ hs
  repeat walk_at "x"
  refine kind_of_at hk ?_
  unfold eKd eK
  repeat walk_at "x"
  refine states_w (k := k) ?_
  refine o_notIn (in_strs (get_app _ _ _) _) ?_
  rw [decide_eq_true hz]
  repeat walk_at "x"
  refine deeds_of_w ?_
  repeat walk_at "x"
  refine may_be_left_w ?_
  repeat walk_at "x"
  refine o_eq (eq_emptyT _) ?_
  generalize hds : (stOf k.2 z).2.2 = ds at *
  have F1 : Fr isWell i S0 (S0 ++ [PObj.lst ((k.2.map (·.1)).map PV.str)]) := (Kp.app _ _).fr hw
  cases ds with
  | nil =>
    repeat walk_at "x"
    exact g_frNew (F1.kp (Kp.app _ _)) lowW hi (by simp) (get_app _ _ _) rfl fun U FU uU hU => q [] U (by simp) (by simp) FU uU hU
  | cons d0 dr =>
    repeat walk_at "x"
    generalize hdd : d0 :: dr = dd at *
    have hpos : 0 < dd.length := by rw [← hdd]; simp
    refine take_w F1.own ⟨by simp; omega, by simp; omega⟩ fun r U F2 u2 r0 r1 => ?_
    obtain ⟨d, hd, hdm⟩ := atI_ex (xs := dd) (k := r) r0 (by simpa using r1)
    refine o_idxT (y := eDeed d) (by rw [atI_map, hd]; rfl) ?_
    unfold eDeed
    repeat walk_at "x"
    have F3 := F1.trans F2
    have hkd : kindOk ws (b.map (·.1)) k := ok
    refine deed_tells_w (k := k) (d := d) (F3.of hj hij) an ok hz (by rw [hds]; exact hdm) ?_
    repeat walk_at "x"
    unfold eOuts
    repeat walk_at "x"
    obtain ⟨hdw, hdne, hdl, hdn, hdo⟩ := hsd d hdm
    have hpos2 : 0 < d.2.length := List.length_pos_iff.mpr hdne
    refine take_w F3.own ⟨by simp; omega, by simp; omega⟩ fun r2 U2 F4 u4 r20 r21 => ?_
    obtain ⟨o, ho, hom⟩ := atI_ex (xs := d.2) (k := r2) r20 (by simpa using r21)
    refine o_idxT (y := eOut o) (by rw [atI_map, ho]; rfl) ?_
    unfold eOut
    have F5 := F3.trans F4
    have hle := F5.le
    obtain ⟨ho1, ho2, ho3⟩ := hdo o hom
    repeat walk_at "y"
    refine s_join (fun ρ T => Fr isWell i S0 T ∧ ∃ ts : List (Str × Str), (∀ t ∈ ts, thOk b t) ∧ ts.length ≤ 1 ∧ T[U2.length]? = some (.lst (ts.map eTh)) ∧ ρ = [some (.ref i), some (eBk b), some (.tup [.str k.1, .str z]), some (.ref j), some (.tup [.str k.1, .tup (k.2.map eSt)]), some (.tup (dd.map eDeed)), some (.str d.1), some (.tup (d.2.map eOut)), some (.str o.1), some (eO o.2.1), some (eO o.2.2), some (.ref U2.length)]) ?_ fun ρ T h => ?_
    · repeat walk_at "x"
      rw [isNon_O]
      cases e : o.2.1 with
      | none =>
        refine Br.of_ff rfl ?_
        repeat walk_at "x"
        exact ⟨F5.kp (Kp.app _ _), [], by simp, by simp, get_app _ _ _, rfl⟩
      | some y =>
        refine Br.of_tt rfl ?_
        unfold eO
        repeat walk_at "x"
        refine ⟨(F5.kp (Kp.app _ _)).setL (by simp [PV.num]; omega) (by simp [PV.num]; omega) _, [(k.1, y)], ?_, by simp, get_set (get_app _ _ _), rfl⟩
        intro t' ht'
        rw [List.mem_singleton.mp ht']
        exact ⟨k, hk, ho2 y e⟩
    · obtain ⟨FT, ts, hts, tl, hT, rfl⟩ := h
      have last : ∀ (ts : List (Str × Str)) (T : Store), Fr isWell i S0 T → (∀ t ∈ ts, thOk b t) → ts.length ≤ 2 → T[U2.length]? = some (.lst (ts.map eTh)) → W (gcV S0 (.ref U2.length) T) Q E := fun ts T FT hts tl hT =>
        g_frNew FT lowW hi hle hT (low_Ths _ _) fun U FU uU hU => q ts U hts tl FU uU hU
      repeat walk_at "x"
      rw [isNon_O]
      cases e : o.2.2 with
      | none =>
        refine Br.of_ff rfl ?_
        repeat walk_at "x"
        exact last ts T FT hts (by omega) hT
      | some y =>
        refine Br.of_tt rfl ?_
        unfold eO
        obtain ⟨k2, hk2⟩ := find_in (ho3 y e)
        obtain ⟨kb2, kn2⟩ := find_at hk2
        repeat walk_at "x"
        refine kind_of_at hk2 ?_
        repeat walk_at "x"
        refine kind_of_at hk2 ?_
        repeat walk_at "x"
        have ne2 := (hb k2 kb2).ne
        obtain ⟨s2, sr2, e2⟩ : ∃ s2 sr2, k2.2 = s2 :: sr2 := by
          cases h : k2.2 with
          | nil => exact absurd h ne2
          | cons a b => exact ⟨a, b, rfl⟩
        unfold eKd
        rw [e2]
        refine first_state_w ?_
        repeat walk_at "x"
        refine last (ts ++ [(y, s2.1)]) _ (FT.setL (by simp [PV.num]; omega) (by simp [PV.num]; omega) _) ?_ (by simp; omega) ?_
        · intro t' ht'
          rcases List.mem_append.mp ht' with h | h
          · exact hts t' h
          · rw [List.mem_singleton.mp h]
            exact ⟨k2, hk2, by rw [e2]; simp⟩
        · rw [List.map_append]; exact get_set hT
end
end Ev

/-! Fw39 -/
namespace Ev
open PySem PySem.Spec PyProof.Rows L2 SX
local macro_rules | `(tactic| walk_at "w") => `(tactic| first
  | (with_reducible apply s_set; focus (repeat first | exact SetR.zero | apply SetR.succ))
  | (with_reducible apply w_get; focus (repeat first | exact GetR.zero | apply GetR.succ))
  | with_reducible first
  | refine s_seqN ?_ | refine s_seq ?_ | refine q_nx ?_ | refine q_ret ?_ | refine q_brk ?_ | refine q_cnt ?_ | refine q_exc ?_
  | refine s_nil ?_ | refine s_pass ?_ | refine s_brk ?_ | refine s_cnt ?_ | refine s_expr ?_ | refine s_ret ?_ | refine s_retN ?_ | refine s_if ?_ | refine s_unp ?_ | refine s_sub ?_ | refine s_for ?_
  | refine w_c ?_ | (refine w_str ?_ ?_; decide +kernel) | refine w_bin ?_ | refine w_un ?_ | refine w_chn ?_ | refine w_bV ?_ | refine w_bBl ?_ | refine w_bAnd ?_ | refine w_bOr ?_ | refine w_bNot ?_ | refine w_bYes ?_
  | refine w_vAnd ?_ | refine w_vOr ?_ | refine w_vNot ?_ | refine w_vIf ?_ | refine w_nil ?_ | refine w_cons ?_ | refine w_tup ?_ | refine w_disp ?_ | refine w_new ?_ | refine lnew ?_ | refine w_oNone ?_ | refine w_oSome ?_ | refine w_slc ?_ | refine w_lslc ?_ | refine slcT ?_ | refine slcS ?_
  | refine w_call ?_ | refine w_callL ?_ | refine w_lcallL ?_ | refine w_lcallN ?_ | refine w_isi ?_ | refine w_app ?_ | refine w_app0 ?_ | refine w_lval ?_ | refine w_cat ?_ | refine w_eqL ?_ | refine w_lm ?_ | refine w_ext ?_ | refine w_sm ?_ | refine w_sm0 ?_ | refine w_lsm ?_ | refine w_smL ?_ | refine w_dic0 ?_ | refine w_dic1 ?_ | refine w_iV ?_ | refine w_iL ?_ | refine il_none ?_ | refine il_some ?_ | refine w_rng ?_ | refine w_comp ?_ | refine w_rev ?_ | refine w_lenSet ?_ | refine w_extV ?_
  | refine o_addI ?_ | refine o_iadd ?_ | refine o_sub ?_ | refine o_neg ?_ | refine o_ltI ?_ | refine o_le ?_ | refine o_gt ?_ | refine o_ge ?_ | refine o_is ?_ | refine o_isNot ?_ | refine o_lenT ?_ | refine o_lenF ?_ | refine o_lenS ?_ | refine o_intB ?_ | refine o_intI ?_ | refine o_max ?_ | refine o_min ?_ | refine o_tupT ?_ | refine o_eqI ?_ | refine o_eqS ?_ | refine o_eqB ?_
  | refine b_is ?_ | refine i_is ?_ | refine s_is ?_ | refine i_tup ?_ | refine i_str ?_ | refine tr_bl ?_ | refine ty_bl ?_ | refine ty_str ?_ | refine ty_tup ?_ | refine ty_int ?_ | refine k_s ?_ | refine k_i ?_
  | refine Br.tt ?_ | refine Br.ff ?_ | refine Br.nf ?_ | refine Br.nt ?_ | refine f_ret ?_ | refine f_nx ?_ | refine f_body ?_)
local macro_rules | `(tactic| walk_at "sget") => `(tactic| first
  | assumption | exact get_app _ _ _ | exact trivial
  | (refine get_set ?_; walk_at "sget") | (refine get_app_lt ?_; walk_at "sget"))
local macro_rules | `(tactic| walk_at "len") => `(tactic| first
  | exact Nat.zero_le _ | exact len_le rfl
  | (have hbig := sizeLine_eq; simp only [List.length_map, List.length_cons, List.length_nil, List.length_append, List.length_take, List.length_drop, List.length_reverse, List.length_set, List.length_range]; omega))
local macro_rules | `(tactic| walk_at "off") => `(tactic| focus rfl)
local macro_rules | `(tactic| walk_at "e") => `(tactic| simp only [wipeE, reset, List.foldl_cons, List.foldl_nil, List.set_cons_succ, List.set_cons_zero])
local macro_rules | `(tactic| walk_at "kp") => `(tactic| first | assumption | exact Kp.refl _ | exact Kp.app _ _ | (refine Kp.trans ?_ (Kp.app _ _); walk_at "kp"))
local macro_rules | `(tactic| walk_at "set") => `(tactic| first | exact setR0 | exact setR1 | exact setR2 | exact setR3 | exact setR4 | exact setR5 | exact setR6 | exact setR7 | exact setR8 | exact setR9 | exact setR10 | exact setR11 | exact setR12 | (repeat first | exact SetR.zero | apply SetR.succ))
local macro_rules | `(tactic| walk_at "f") => `(tactic| fail)
local macro_rules | `(tactic| walk_at "x") => `(tactic| first
  | ((with_reducible show W _ _ _); first
    | ((with_reducible apply w_var); (focus exact rfl))
    | with_reducible first | refine w_c ?_ | refine w_cons ?_ | refine w_nil ?_ | refine w_bin ?_ | refine w_app ?_ | refine w_call ?_ | refine w_tup ?_ | refine w_bBl ?_ | refine w_new ?_ | refine w_iV ?_ | refine w_comp ?_ | refine w_iL ?_ | refine w_bV ?_ | refine w_disp ?_ | refine w_vAnd ?_ | refine w_vOr ?_ | refine w_bAnd ?_ | refine w_bOr ?_ | refine w_bNot ?_ | refine w_bYes ?_ | refine w_isi ?_ | refine w_callL ?_ | refine w_lval ?_ | refine w_lm ?_ | refine w_chn ?_ | refine w_un ?_ | refine w_oNone ?_ | refine w_oSome ?_ | refine w_slc ?_ | refine w_lslc ?_ | refine w_rng ?_ | refine w_vNot ?_ | refine w_vIf ?_ | refine w_cat ?_ | refine w_eqL ?_ | refine w_lenSet ?_ | refine w_app0 ?_ | refine w_extV ?_ | refine w_ext ?_ | refine w_lcallL ?_ | refine w_lcallN ?_ | refine w_sm ?_ | refine w_sm0 ?_ | refine w_lsm ?_ | refine w_smL ?_ | refine w_dic0 ?_ | refine w_dic1 ?_ | refine w_rev ?_ | refine f_ret ?_ | refine f_nx ?_
    | ((with_reducible refine g_keep ?_ ?_ ?_); (focus walk_at "kp"); (focus rfl))
    | (with_reducible refine w_str ?_ ?_; decide +kernel)
    | walk_at "f"
    | with_reducible refine f_body ?_)
  | ((with_reducible show WS _ _); first
    | with_reducible first | refine s_seqN ?_ | refine s_seq ?_ | refine q_nx ?_
    | ((with_reducible apply s_set); (focus walk_at "set"))
    | with_reducible first | refine s_expr ?_ | refine s_ret ?_ | refine s_if ?_ | refine s_nil ?_ | refine q_ret ?_ | refine s_unp ?_ | refine s_sub ?_ | refine s_for ?_ | refine q_cnt ?_ | refine q_brk ?_ | refine q_exc ?_ | refine s_retN ?_ | refine s_cnt ?_ | refine s_brk ?_ | refine s_pass ?_)
  | ((with_reducible show Op _ _); first
    | ((with_reducible apply t_n); (focus walk_at "set"))
    | with_reducible first
      | refine t_cons ?_ | refine t_nil ?_ | refine t_tup ?_ | refine i_tup ?_
      | refine o_lenT ?_
      | refine o_eqS ?_ | refine o_eqI ?_ | refine o_eqB ?_ | refine o_neI ?_ | refine o_neS ?_ | refine o_neB ?_ | refine o_is ?_ | refine o_isNot ?_ | refine o_isT ?_ | refine o_isNT ?_ | refine o_isF ?_ | refine o_isNF ?_
      | refine o_addI ?_ | refine o_sub ?_ | refine o_neg ?_ | refine o_ltI ?_ | refine o_le ?_ | refine o_gt ?_ | refine o_ge ?_ | refine o_iadd ?_
      | refine tr_bl ?_ | refine ty_bl ?_ | refine ty_str ?_ | refine ty_tup ?_ | refine ty_int ?_ | refine o_tupT ?_
      | refine o_lenF ?_ | refine o_lenS ?_ | refine o_intB ?_ | refine o_intI ?_ | refine o_max ?_ | refine o_min ?_ | refine i_str ?_ | refine k_s ?_ | refine k_i ?_
    | ((with_reducible apply o_idxT); (focus first | exact at0 _ _ | exact at1 _ _ _ | exact at2 _ _ _ _ | exact at3 _ _ _ _ _))
    | ((with_reducible apply i_ref); (focus walk_at "sget"))
    | ((with_reducible apply o_getL); (focus walk_at "sget"))
    | ((with_reducible apply o_lenR); (focus walk_at "sget"))
    | ((with_reducible apply o_idxR); (focus walk_at "sget"); (focus first | exact at0 _ _ | exact at1 _ _ _ | exact at2 _ _ _ _))
    | ((with_reducible apply o_tupR); (focus walk_at "sget"))
    | ((with_reducible apply o_listR); (focus walk_at "sget"))
    | ((with_reducible refine o_mod ?_ ?_); (focus omega))
    | ((with_reducible refine o_div ?_ ?_); (focus omega))
    | ((with_reducible refine o_pow ?_ ?_); (focus decide))
    | ((with_reducible refine o_app ?_ ?_); (focus walk_at "len"))
    | walk_at "f")
  | with_reducible first | refine b_is ?_ | refine i_is ?_ | refine s_is ?_ | refine Br.tt ?_ | refine Br.ff ?_ | refine Br.nf ?_ | refine Br.nt ?_ | refine lnew ?_ | refine il_none ?_ | refine il_some ?_ | refine revT ?_ | refine slcT ?_ | refine slcS ?_
  | ((with_reducible refine Br.of_tt ?_ ?_); focus (first | assumption | rfl | exact beq_self_eq_true _ | (simp only [decide_eq_true_eq]; omega)))
  | ((with_reducible refine Br.of_ff ?_ ?_); focus (first | assumption | rfl | (rw [beq_self_eq_true]; rfl) | (simp only [decide_eq_false_iff_not]; omega)))
  | ((with_reducible refine And.intro ?_ ?_); (focus first | ((with_reducible show _ ≤ sizeLine); walk_at "len") | ((with_reducible show lkOk _ _); walk_at "sget")))
  | ((with_reducible refine seek_nx ?_ ?_); (focus rfl); walk_at "off") | ((with_reducible refine seek_cnt ?_ ?_); (focus rfl); walk_at "off") | ((with_reducible refine seek_ret ?_); focus rfl))
local macro_rules | `(tactic| walk_at "b") => `(tactic| with_reducible first | refine b_is ?_ | refine Br.tt ?_ | refine Br.ff ?_ | refine Br.nf ?_ | refine Br.nt ?_ | refine tr_bl ?_)
local macro_rules | `(tactic| walk_at "y") => `(tactic| (fail_if_success (with_reducible refine s_if ?_)); walk_at "x")
noncomputable def bLaw08 : TSt :=   (sSeq (sFor (tgN 1) (iRng (vsCons (vCall fMax (vsCons (vC (.int 1)) (vsCons (vCall fMin (vsCons (vCall fLen (vsCons (vVar 0) vsNil)) (vsCons (vC (.int 2)) vsNil))) vsNil))) vsNil)) (sSeq (sSet 2 (vApp (fnV 2 3 bWell) (vsCons (vVar 0) (vsCons (vVar 1) vsNil)))) (sSeq (sSet 3 (vApp (fnV 2 14 bNames) (vsCons (vVar 2) (vsCons (vC (.int 12)) vsNil)))) (sSeq (sSet 4 (vApp (fnV 3 6 bBook) (vsCons (vVar 2) (vsCons (vVar 3) (vsCons (vC (.int 60)) vsNil))))) (sSeq (sIf (bOr (bBl (vBin oIsNotB (vApp (fnV 1 8 bIsBook) (vsCons (vVar 4) vsNil)) (vC (.bl true)))) (bNot (bV (vCallL fAll (lComp (tgN 5) (iV (vVar 4)) bYes (vBin oIsB (vApp (fnV 1 8 bIsKind) (vsCons (vVar 5) vsNil)) (vC (.bl true))) [5]))))) (sSeq (sRet (vC (.bl false))) sNil) sNil) (sSeq (sFor (tgN 5) (iV (vVar 4)) (sSeq (sIf (bOr (bBl (vBin oNe (vApp (fnV 2 3 bKindOf) (vsCons (vVar 4) (vsCons (vBin oIdx (vVar 5) (vC (.int 0))) vsNil))) (vVar 5))) (bBl (vBin oNe (vApp (fnV 1 1 bFirst) (vsCons (vVar 5) vsNil)) (vBin oIdx (vBin oIdx (vBin oIdx (vVar 5) (vC (.int 1))) (vC (.int 0))) (vC (.int 0)))))) (sSeq (sRet (vC (.bl false))) sNil) sNil) sNil)) (sSeq (sIf (bNot (bV (vApp (fnV 3 8 bWalked) (vsCons (vVar 2) (vsCons (vVar 4) (vsCons (vVar 3) vsNil)))))) (sSeq (sRet (vC (.bl false))) sNil) sNil) sNil))))))) (sSeq (sRet (vC (.bl true))) sNil))
theorem Off.ex {L : List Nat} {ρ ρ' : Env'} (h : Off L ρ ρ') : ∃ g, ρ' = reset ρ L g := ⟨_, h⟩
theorem cutL_map {α β : Type} (f : α → β) (xs : List α) (l h : Option Int) : cutL (xs.map f) l h = (cutL xs l h).map f := by
  unfold cutL
  rw [List.length_map, List.map_take, List.map_drop]
theorem cutL_mem {α : Type} {xs : List α} {l h : Option Int} {x : α} (hx : x ∈ cutL xs l h) : x ∈ xs := List.mem_of_mem_drop (List.mem_of_mem_take hx)
theorem cutL_len {α : Type} (xs : List α) (l h : Option Int) : (cutL xs l h).length ≤ xs.length := by
  unfold cutL
  simp only [List.length_take, List.length_drop]; omega
theorem find_self {b : List Kind} {k : Kind} (h : k ∈ b) (nd : (b.map (·.1)).Nodup) : b.find? (fun k' => k'.1 == k.1) = some k := by
  induction b with
  | nil => cases h
  | cons t ts ih =>
    simp only [List.map_cons, List.nodup_cons, List.mem_map, not_exists, not_and] at nd
    rw [List.find?_cons]
    rcases List.mem_cons.mp h with rfl | h
    · simp
    · have : (t.1 == k.1) = false := by
        rw [beq_eq_false_iff_ne]
        intro e
        exact nd.1 k h e.symm
      rw [this]
      exact ih h nd.2
/-- the first state -/
def fstS (k : Kind) : Str := match k.2 with
  | s :: _ => s.1
  | [] => default
section
variable {Q : PV → Store → Prop} {E : PX → Store → Prop} {S0 : Store}
theorem first_w {k : Kind} (ne : k.2 ≠ []) (q : Q (.str (fstS k)) S0) : W (fnV 1 1 bFirst [eKd k] S0) Q E := by
  obtain ⟨n, sts⟩ := k
  cases sts with
  | nil => exact absurd rfl ne
  | cons s ss => exact first_state_w q
theorem fst_in {k : Kind} (ne : k.2 ≠ []) : fstS k ∈ k.2.map (·.1) := by
  obtain ⟨n, sts⟩ := k
  cases sts with
  | nil => exact absurd rfl ne
  | cons s ss => simp [fstS]
theorem walked_w {i j : Nat} {ws : List Str} {b : List Kind} (hij : j ≠ i) (hw : HasW i S0) (hj : S0[j]? = some (.lst (ws.map .str))) (an : allN ws) (hb : ∀ k ∈ b, kindOk ws (b.map (·.1)) k) (nd : (b.map (·.1)).Nodup) (bl : b.length ≤ 6)
    (q : ∀ U, Fr isWell i S0 U → U.length = S0.length → Q (.bl true) U) : W (fnV 3 8 bWalked [.ref i, eBk b, .ref j] S0) Q E := by
  refine w_fn rfl ?_
  show WS (bWalked [some (.ref i), some (eBk b), some (.ref j), none, none, none, none, none] S0) _
  unfold bWalked eBk
  have hi := hw.lt
  have big := sizeLine_eq
  repeat walk_at "x"
  walk_at "e"
  refine w_pureA (fun k : Kind => eTh (k.1, fstS k)) trivial (fun k hk => ?_) ?_
  · repeat walk_at "x"
    unfold eKd eK
    repeat walk_at "x"
    refine first_w (k := k) (hb k hk).ne ?_
    repeat walk_at "x"
    exact ⟨rfl, rfl⟩
  rw [show (b.map fun k : Kind => eTh (k.1, fstS k)) = (b.map fun k : Kind => (k.1, fstS k)).map eTh from by rw [List.map_map]; rfl]
  repeat walk_at "x"
  refine rng1 ⟨by omega, by omega⟩ ?_
  refine s_loop (fun rest ρ T => Fr isWell i S0 T ∧ ∃ (ts : List (Str × Str)) (a : Nat) (e4 e5 e6 : Option PV), ts.length + rest.length ≤ 36 ∧ (∀ t ∈ ts, thOk b t) ∧ S0.length ≤ a ∧ T[a]? = some (.lst (ts.map eTh)) ∧ ρ = [some (.ref i), some (.tup (b.map eKd)), some (.ref j), some (.ref a), e4, e5, e6, none])
    ⟨(Kp.app _ _).fr hw, b.map fun k : Kind => (k.1, fstS k), S0.length, none, none, none, by simp [rangeL]; omega, fun t ht => ?_, Nat.le_refl _, get_app _ _ _, rfl⟩ (fun x rest ρ T h => ?_) (fun ρ T h => ⟨trivial, ?_⟩)
  · obtain ⟨k, hk, rfl⟩ := List.mem_map.mp ht
    exact ⟨k, find_self hk nd, fst_in (hb k hk).ne⟩
  · obtain ⟨FT, ts, a, e4, e5, e6, hl, ht, ha, hT, rfl⟩ := h
    simp only [List.length_cons] at hl
    refine ⟨trivial, ?_⟩
    repeat walk_at "x"
    refine Op.of (eq_empty _) ?_
    cases ts with
    | nil =>
      repeat walk_at "x"
      exact ⟨FT, [], a, _, _, _, by simp; omega, ht, ha, hT, rfl⟩
    | cons t0 tr =>
      repeat walk_at "x"
      generalize htt : t0 :: tr = ts at *
      have hpos : 0 < ts.length := by rw [← htt]; simp
      refine take_w FT.own ⟨by simp; omega, by simp; omega⟩ fun r U F2 u2 r0 r1 => ?_
      have F3 := FT.trans F2
      have hU : U[a]? = some (.lst (ts.map eTh)) := F2.of hT (by omega)
      obtain ⟨t, htr, htm⟩ := atI_ex (xs := ts) (k := r) r0 (by simpa using r1)
      repeat walk_at "x"
      refine o_idxR (y := eTh t) hU (by rw [atI_map, htr]; rfl) ?_
      repeat walk_at "x"
      refine step_w hij F3.own (F3.of hj hij) an hb (ht t htm) fun us V hus ul F4 u4 hV => ?_
      have F5 := F3.trans F4
      have hle := F3.le
      repeat walk_at "x"
      refine lslcR (F4.of hU (by omega)) ?_
      repeat walk_at "x"
      refine lslcR (F4.of hU (by omega)) ?_
      rw [cut_to _ r0, cut_from _ (by omega)]
      have hr : r.toNat < ts.length := by simp at r1; omega
      first | refine ⟨trivial, by simp; omega, ?_⟩ | refine ⟨by simp; omega, ?_⟩ | skip
      repeat walk_at "x"
      first | refine ⟨trivial, by simp; omega, ?_⟩ | refine ⟨by simp; omega, ?_⟩ | skip
      repeat walk_at "x"
      refine lslcR (get_app _ _ _) ?_
      repeat walk_at "x"
      rw [← List.map_take, ← List.map_drop, ← List.map_append, ← List.map_append, cutL_map]
      have hsz := cutL_len (ts.take r.toNat ++ ts.drop (r + 1).toNat ++ us) (some (-12)) none
      refine ⟨(F5.kp (Kp.app _ _)).kp (Kp.app _ _), _, _, _, _, _, ?_, fun t' ht' => ?_, ?_, get_app _ _ _, rfl⟩
      · simp only [List.length_append, List.length_take, List.length_drop] at hsz
        omega
      · have := cutL_mem ht'
        simp only [List.mem_append] at this
        rcases this with (h | h) | h
        · exact ht _ (List.mem_of_mem_take h)
        · exact ht _ (List.mem_of_mem_drop h)
        · exact hus _ h
      · simp; omega
  · obtain ⟨FT, ts, a, e4, e5, e6, hl, ht, ha, hT, rfl⟩ := h
    repeat walk_at "x"
    exact g_fr FT lowW hi rfl q
theorem law08_w {ns : List Int} (q : ∀ U, Q (.bl true) U) : W (fnV 1 6 bLaw08 [.frl (ns.map .int)] []) Q E := by
  refine w_fn rfl ?_
  show WS (bLaw08 [some (.frl (ns.map .int)), none, none, none, none, none] []) _
  unfold bLaw08
  have big := sizeLine_eq
  repeat walk_at "x"
  refine rng1 ⟨by split <;> (split <;> omega), by split <;> (split <;> omega)⟩ ?_
  refine s_loop (fun rest ρ T => (∀ x ∈ rest, ∃ k : Nat, x = .int (k : Int) ∧ k ≤ 1000) ∧ Off [1, 2, 3, 4, 5] [some (.frl (ns.map .int)), none, none, none, none, none] ρ) ⟨fun x hx => ?_, Off.refl _ _⟩ (fun x rest ρ T h => ?_) (fun ρ T h => ⟨trivial, ?_⟩)
  · obtain ⟨k, hk, rfl⟩ := mem_rangeL.mp hx
    refine ⟨k, rfl, ?_⟩
    split at hk <;> (split at hk <;> omega)
  · obtain ⟨hx, of⟩ := h
    obtain ⟨g, rfl⟩ := of.ex
    refine ⟨trivial, ?_⟩
    obtain ⟨k, rfl, hk⟩ := hx x (by simp)
    walk_at "e"
    repeat walk_at "x"
    refine well_w ⟨by omega, by omega⟩ fun o ho => ?_
    repeat walk_at "x"
    have hw : HasW T.length (T ++ [o]) := ⟨o, get_app _ _ _, ho⟩
    refine names_w2 hw fun ws U F1 u1 hU hl hg hnd hbar => ?_
    have hj : (T ++ [o]).length ≠ T.length := by simp
    have an : allN ws := fun z hz => nm_good (hg z hz) (hbar z hz)
    repeat walk_at "x"
    refine book_w (by omega) hj F1.own hU hl hnd fun b V bne bl bnd bin bok F2 u2 => ?_
    have F3 := F1.trans F2
    have ak : allN (b.map (·.1)) := fun z hz => an z (bin z hz)
    have isK : ∀ k ∈ b, sKind (eKd k) = true := fun k hk => kind_ok an ak (bok k hk)
    have hV := F2.of hU hj
    repeat walk_at "x"
    refine is_book_true (tyD_dat _ _ (dat_Bk b)) (by simp; exact Nat.pos_of_ne_zero fun h => bne (List.length_eq_zero_iff.mp h)) (by simp; exact bl) ?_ ?_ ?_ ?_
    · exact List.all_eq_true.mpr fun x hx => by obtain ⟨k, hk, rfl⟩ := List.mem_map.mp hx; exact isK k hk
    · rw [hd_eKd]; exact bnd
    · intro x hx
      obtain ⟨k, hk, rfl⟩ := List.mem_map.mp hx
      rw [hd_eKd]
      exact made_ok (bok k hk)
    unfold eBk
    repeat walk_at "x"
    walk_at "e"
    refine w_pureA (fun k : Kind => .bl true) trivial (fun k hk => ?_) ?_
    · repeat walk_at "x"
      refine is_kind_w (tyD_dat _ _ (dat_Kd k)) ?_
      rw [isK k hk]
      repeat walk_at "x"
      exact ⟨rfl, rfl⟩
    rw [show (b.map fun k : Kind => PV.bl true) = (b.map fun _ => true).map PV.bl from by rw [List.map_map]; rfl]
    refine o_all ?_
    rw [show (b.map fun _ => true).all _root_.id = true from by simp]
    repeat walk_at "x"
    refine s_all eKd b [5] rfl trivial (fun k hk g => ?_) fun g => ?_
    · walk_at "e"
      obtain ⟨s, sr, e2⟩ : ∃ s sr, k.2 = s :: sr := by
        cases h : k.2 with
        | nil => exact absurd h (bok k hk).ne
        | cons a b => exact ⟨a, b, rfl⟩
      repeat walk_at "x"
      unfold eKd eK
      rw [e2]
      repeat walk_at "x"
      refine kind_of_at (find_self hk bnd) ?_
      unfold eKd eK
      rw [e2]
      refine o_ne (eqS_self rfl (dat_K _ _) (Nat.le_trans (dep_Kd (k.1, s :: sr)) (by omega))) ?_
      repeat walk_at "x"
      refine first_state_w ?_
      repeat walk_at "x"
      unfold eSt
      repeat walk_at "x"
    walk_at "e"
    repeat walk_at "x"
    refine walked_w hj F3.own hV an bok bnd bl fun U4 F4 u4 => ?_
    repeat walk_at "x"
    exact ⟨fun x h => hx x (by simp [h]), rfl⟩
  · obtain ⟨hx, of⟩ := h
    obtain ⟨g, rfl⟩ := of.ex
    walk_at "e"
    repeat walk_at "x"
    exact q _
end
end Ev

/-! Fw40: enumerate of lists and tuples, zip of lists and tuples. -/
namespace Ev
open PySem PySem.Spec PyProof.Rows L2 SX
open Sem (wp)
/-! ### enumerate of a tuple, at the library's level -/
theorem meets_enumT (l : Addr) (items : Array Value) :
    Meets (Builtin.«enumerate.__new__» ⟨[.type "enumerate", .ref l], []⟩) (fun _ R s => s.heap.IsTuple l items ∧
      R (.ok (.ret (.ref (s.heap.push { cls := .type "tuple_iterator", data := .fields #[.ref l, .int 0 0] }).objs.size)))
        { s with heap := (s.heap.push { cls := .type "tuple_iterator", data := .fields #[.ref l, .int 0 0] }).push { cls := .type "enumerate", data := .fields #[.none, .bool false, .ref s.heap.objs.size, rawInt 0, .none, .none] } }) :=
  .of_wp fun prog w A R s h => by
    obtain ⟨hp, g, d, tk, os⟩ := s; obtain ⟨hl, h⟩ := h
    have hsub := sub_enumerate
    have B := begins_tuple l items
    have q1 : ∀ {A' : Around} {E : Value → Shared → Prop} {Q : Value → Shared → Prop}, Q (.ref hp.objs.size) ⟨hp.push { cls := .type "tuple_iterator", data := .fields #[.ref l, .int 0 0] }, g, d, tk, os⟩ → wpAny (model prog w) A' (pyIter (.ref l)) Q E ⟨hp, g, d, tk, os⟩ :=
      fun q => B.iter prog w _ _ ⟨hp, g, d, tk, os⟩ _ hl q
    wp_walk using q1
    refine wpAny_stack_any fun st => wpAny_pure ?_
    split
    · rename_i c _ _ _ _ _
      cases (c == Value.type "enumerate")
      · wp_walk using q1
        exact ⟨_, rfl, h⟩
      · wp_walk using q1
        exact ⟨_, rfl, h⟩
    · wp_walk using q1
      exact ⟨_, rfl, h⟩
section
variable {prog : Program} {w : World} {A : Around} {E : Value → Shared → Prop} {s : Shared}
theorem call_enumT {l : Addr} {items : Array Value} {Q : Value → Shared → Prop} (hL : s.heap.IsTuple l items)
    (h : ∀ h', IsEnum h' (s.heap.objs.size + 1) s.heap.objs.size 0 .none → h'.IsTupleIter s.heap.objs.size l 0 → h'.objs.size = s.heap.objs.size + 2 →
      (∀ b o, s.heap.get? b = some o → h'.get? b = some o) → Q (.ref (s.heap.objs.size + 1)) { s with heap := h' }) :
    wpAny (model prog w) A (call (.type "enumerate") [.ref l]) Q E s := by
  refine callType_new F.called_enumerate (by decide) (F.typeCall_enumerate_1 _) (F.newCall_enumerate_1 _) (fun obj => F.args_object_init_2 obj _) F.entry_enumerate_new
    (meets_enumT l items) ⟨hL, ?_⟩
  have hz : (s.heap.push { cls := .type "tuple_iterator", data := .fields #[.ref l, .int 0 0] }).objs.size = s.heap.objs.size + 1 := Heap.size_push ..
  show _ ∧ _
  rw [hz]
  have he : IsEnum ((s.heap.push { cls := .type "tuple_iterator", data := .fields #[.ref l, .int 0 0] }).push
      { cls := .type "enumerate", data := .fields #[.none, .bool false, .ref s.heap.objs.size, rawInt 0, .none, .none] }) (s.heap.objs.size + 1) s.heap.objs.size 0 .none := by
    have := Heap.get?_push_size (s.heap.push { cls := .type "tuple_iterator", data := .fields #[.ref l, .int 0 0] })
      (o := { cls := .type "enumerate", data := .fields #[.none, .bool false, .ref s.heap.objs.size, rawInt 0, .none, .none] }) rfl
    rw [hz] at this; exact this
  refine ⟨⟨_, he, rfl⟩, h _ he ⟨_, Heap.get?_push_of_some _ (Heap.get?_push_size _ rfl), rfl, rfl⟩ (by rw [Heap.size_push, hz]) fun b o x => Heap.get?_push_of_some _ (Heap.get?_push_of_some _ x)⟩
end
/-- the tuple at a as it stands at each turn, each item in a new pair -/
def IteT (K : PySem.W.Frag) (a : Addr) : It :=
  ⟨fun i H => ∃ (xs : List V) (x : V), SqT K H a xs ∧ xs[i]? = some x, fun i H v H' => ∃ T x, v = .ref T ∧ H T = none ∧ H' = upd H T (.tup [.int (i : Nat), x]) ∧ ∀ xs, SqT K H a xs → xs[i]? = some x, fun i H => ∃ xs : List V, SqT K H a xs ∧ xs.length ≤ i⟩
theorem turn_enumT {P : Program} {w : World} {K : PySem.W.Frag} {elts : List Expr} {kk : Nat} {tpos : Pos} (a e it : Addr) :
    Turn P w K (.Tuple elts kk tpos) (IteT K a) [e, it] e (fun i h => (∃ old, IsEnum h e it ((i : Nat) : Int) old) ∧ h.IsTupleIter it a i ∧ e ≠ it ∧ a ≠ it ∧ e ≠ a) where
  mem := by simp
  obj := fun i h st b hb => by
    obtain ⟨⟨old, he⟩, ⟨o, ho, hc, hd⟩, _⟩ := st
    have e' : b = e ∨ b = it := by simpa using hb
    rcases e' with z | z
    · rw [z]; exact ⟨_, he, fun v q => nomatch q⟩
    · rw [z]; exact ⟨o, ho, fun v q => by rw [hd] at q; cases q⟩
  keep := fun i h h' st k => let ⟨⟨old, he⟩, hi, hne⟩ := st; ⟨⟨old, k e (by simp) _ he⟩, hi.at fun o q => k it (by simp) o q, hne⟩
  item := by
    intro X hP hw hK hc i pins s σ H E I hf st hg
    subst hP hw hK
    obtain ⟨⟨old, he⟩, hit, hne, hai, hea⟩ := st
    obtain ⟨xs, x, hq, hx⟩ := hg
    obtain ⟨its, rv, p, hz⟩ := I.tuple hq
    obtain ⟨u, hu, ru⟩ := rv.get hx
    have hel : e < s.heap.objs.size := Heap.lt_size he
    have hil : it < s.heap.objs.size := by obtain ⟨_, q, _⟩ := hit; exact Heap.lt_size q
    have hlt : i < its.toArray.size := by
      have := (List.getElem?_eq_some_iff.mp hu).1
      simpa using this
    have D : Draws X.prog X.w X.A.in1 it [it, a] its.toArray.size (fun i v => its.toArray[i]? = some v) (fun i h => h.IsTupleIter it a i ∧ h.IsTuple a its.toArray) :=
      Draws.tuple (show X.A.in1.handled = none from I.ok.hd hc) it a hai its.toArray
    refine wpAny_pyNext_enum_itemC D he ⟨hit, p⟩ hlt hne (by simp [hne, hea]) fun y h' tk hy ho hit' hT hsz hk => ?_
    have hy : y = u := by
      have hu' : its.toArray[i]? = some u := by simpa using hu
      rw [hu'] at hy; cases hy; rfl
    subst hy
    refine ⟨_, rfl, wpAny_letOwnedTupleGo_enum (s := { s with heap := h', toks := tk + 1 }) ho fun h'' he' sb => ?_⟩
    have hT2 : h''.get? s.heap.objs.size = some { cls := .type "tuple", data := .seq #[.int i tk, y] } := (sb.2 _ (Nat.ne_of_gt hel)).trans hT
    have new : ObjOk X.prog X.w (upd H s.heap.objs.size (.tup [.int (i : Nat), x])) h'' s.heap.objs.size (.tup [.int (i : Nat), x]) :=
      ⟨by show 2 ≤ sizeLine; decide, [.int i tk, y], .cons ⟨_, rfl⟩ (.cons ru .nil), ⟨_, hT2, rfl, _, rfl⟩⟩
    have I1 : Inv X pins σ (upd H s.heap.objs.size (.tup [.int (i : Nat), x])) { s with heap := h'', toks := tk + 1 } :=
      I.turnedNew (ch := [e, it]) (fun b ob hb q => (sb.2 b (fun z => hb (by simp [z]))).trans (hk b ob (fun z => hb (by simp [z])) (fun z => hb (by simp [z])) q)) hf (Nat.le_refl _) new
    refine ⟨.ref s.heap.objs.size, _, I1, rfl, ⟨_, x, rfl, I.hok.fresh (Nat.le_refl _), rfl, fun ys hy => by rw [I.tuple_inj hy hq]; exact hx⟩, ⟨⟨y, ?_⟩, hit'.1.at fun o q => (sb.2 it (Ne.symm hne)).trans q, hne, hai, hea⟩, fun b hb => ?_⟩
    · have e1 : ((i + 1 : Nat) : Int) = (i : Int) + 1 := by omega
      rw [e1]; exact he'
    · have hb' : b < s.heap.objs.size := by
        have e' : b = e ∨ b = it := by simpa using hb
        rcases e' with z | z
        · rw [z]; exact hel
        · rw [z]; exact hil
      rw [upd_ne (Nat.ne_of_lt hb')]
      exact (hf b hb).1
  done := by
    intro X hP hw hK hc i pins s σ H E I hf st hg
    subst hP hw hK
    obtain ⟨⟨old, he⟩, hit, hne, hai, hea⟩ := st
    obtain ⟨xs, hq, hx⟩ := hg
    obtain ⟨its, rv, p, hz⟩ := I.tuple hq
    obtain ⟨f0, f1, f2, f3, f4, f5⟩ := hf it (by simp)
    have hl := rv.length
    have D : Draws X.prog X.w X.A.in1 it [it, a] i (fun _ _ => False) (fun j h => j = i ∧ h.IsTupleIter it a j ∧ h.IsTuple a its.toArray) :=
      ⟨fun _ _ st => let ⟨o, ho, _⟩ := st.2.1; ⟨o, ho⟩, fun _ _ _ st hk => ⟨st.1, st.2.1.at fun o e => hk it (by simp) o e, st.2.2.at fun o e => hk a (by simp) o e⟩, fun j s Q E hi st hQ => absurd st.1 (by omega),
        fun s Q E st hE => wpAny_nextOf_tuple_end (show X.A.in1.handled = none from I.ok.hd hc) st.2.1 st.2.2 (by simp; omega) hE⟩
    exact wpAny_pyNext_enum_endD D he ⟨rfl, hit, p⟩ fun h' eb => ⟨rfl, I.turned (t' := s.toks) (fun b o hb q => eb b o hb q) f0 f1 f3 f4 f5⟩
  self := fun A i s Q E st h => let ⟨⟨_, he⟩, _⟩ := st; wpAny_pyIter_enum he h
def iEnumT (K : PySem.W.Frag) (ta : TA) : TI := fun σ H R => ta σ H fun vs H1 => ∃ a xs, vs = [.ref a] ∧ SqT K H1 a xs ∧ R (IteT K a) H1
theorem pi_enumT {X : Cx} {e : Expr} {ta : TA} {p pos tpos : Pos} {elts : List Expr} {kk : Nat} (hg : Gl X "enumerate") (hm : X.mg "enumerate" = none) (ha : PA X [e] ta) (hs : starEach [e] X.env = [(false, eval e X.env)] := by rfl) :
    PI X (.Tuple elts kk tpos) (.Call (.Name "enumerate" p) [e] [] pos) (iEnumT X.K ta) := by
  refine ⟨fun pins s σ H R I h => ?_⟩
  refine Call_ (ld_blt I hg hm boot_enumerate (PyProof.Rows.callWith_type1 (thn (ha.run pos pins s σ H _ I h) fun us s1 ⟨vs, H1, I1, r1, q1⟩ => ?_) hs rfl))
  obtain ⟨a, xs, ex, hq, q⟩ := q1
  subst ex
  cases r1 with
  | cons r rr =>
    cases rr
    cases r
    obtain ⟨its, rv, p', hz⟩ := I1.tuple hq
    have hal : a < s1.heap.objs.size := by obtain ⟨o, ho, _⟩ := id p'; exact Heap.lt_size ho
    refine call_enumT (show s1.heap.IsTuple a its.toArray from p') fun h' he hit hsz hk => wpAny_pyIter_enum he ?_
    have I2 : Inv X pins σ H1 { s1 with heap := h' } := I1.kept (t' := s1.toks) hk
    refine ⟨s1.heap.objs.size + 1, [s1.heap.objs.size + 1, s1.heap.objs.size], _, _, H1, rfl, I2, turn_enumT a (s1.heap.objs.size + 1) s1.heap.objs.size, ⟨⟨.none, he⟩, hit, Nat.succ_ne_self _, Nat.ne_of_lt hal, Ne.symm (Nat.ne_of_lt (Nat.lt_succ_of_lt hal))⟩, fun b hb => ?_, q⟩
    have e' : b = s1.heap.objs.size + 1 ∨ b = s1.heap.objs.size := by simpa using hb
    have hle : s1.heap.objs.size ≤ b := by
      rcases e' with z | z
      · rw [z]; exact Nat.le_add_right _ _
      · rw [z]; exact Nat.le_refl _
    exact I1.fpOk hle (I1.hok.fresh hle)
/-! ### as what is walked -/
def enumF : Nat → List PV → List PV
  | _, [] => []
  | n, x :: r => .tup [.int (n : Nat), x] :: enumF (n + 1) r
def enumL (xs : List PV) : List PV := enumF 0 xs
theorem enumF_get : ∀ (n : Nat) (xs : List PV) (i : Nat), (enumF n xs)[i]? = (xs[i]?).map fun x => .tup [.int ((n + i : Nat) : Int), x]
  | _, [], i => by simp [enumF]
  | n, x :: r, 0 => by simp [enumF]
  | n, x :: r, i + 1 => by
    rw [enumF, List.getElem?_cons_succ, List.getElem?_cons_succ, enumF_get (n + 1) r i]
    rw [show n + 1 + i = n + (i + 1) by omega]
theorem enumL_get (xs : List PV) (i : Nat) : (enumL xs)[i]? = (xs[i]?).map fun x => .tup [.int ((i : Nat) : Int), x] := by
  unfold enumL; rw [enumF_get, Nat.zero_add]
theorem enumF_len : ∀ (n : Nat) (xs : List PV), (enumF n xs).length = xs.length
  | _, [] => rfl
  | n, x :: r => by rw [enumF, List.length_cons, List.length_cons, enumF_len (n + 1) r]
theorem enumL_len (xs : List PV) : (enumL xs).length = xs.length := enumF_len 0 xs
def zipL : List PV → List PV → List PV
  | x :: xs, y :: ys => .tup [x, y] :: zipL xs ys
  | _, _ => []
theorem zipL_get : ∀ (xs ys : List PV) (i : Nat), (zipL xs ys)[i]? = match xs[i]?, ys[i]? with | some x, some y => some (.tup [x, y]) | _, _ => none
  | [], ys, i => by simp [zipL]
  | x :: xs, [], i => by simp [zipL]
  | x :: xs, y :: ys, 0 => by simp [zipL]
  | x :: xs, y :: ys, i + 1 => by
    rw [zipL, List.getElem?_cons_succ, List.getElem?_cons_succ, List.getElem?_cons_succ]
    exact zipL_get xs ys i
theorem zipL_len : ∀ (xs ys : List PV), (zipL xs ys).length = min xs.length ys.length
  | [], ys => by simp [zipL]
  | x :: xs, [] => by simp [zipL]
  | x :: xs, y :: ys => by simp [zipL, zipL_len xs ys]
section
variable {K : PySem.W.Frag} {cm : Str → Value → Prop} {μ : List Addr} {S : Store} {H : Hp}
theorem pair_new {x y : PV} {v w : V} {T : Addr} (R : RS K cm μ S H) (hT : H T = none) (rx : RV K μ H x v) (ry : RV K μ H y w) :
    Ext μ H μ (upd H T (.tup [v, w])) ∧ RS K cm μ S (upd H T (.tup [v, w])) ∧ RV K μ (upd H T (.tup [v, w])) (.tup [x, y]) (.ref T) :=
  ⟨Ext.fresh hT, R.fresh hT, .tup (SqT.of upd_same) (by show 2 ≤ sizeLine; decide) (.cons (rx.mono R (Ext.fresh hT)) (.cons (ry.mono R (Ext.fresh hT)) .nil))⟩
theorem it_enT {a : Addr} {xs : List PV} {vs : List V} (R : RS K cm μ S H) (s : SqT K H a vs) (l : xs.length ≤ sizeLine) (r : RVs K μ H xs vs) : ItOk K cm (IteT K a) μ H (enumL xs, none) := by
  refine ⟨by rw [enumL_len]; exact l, fun i μ' S' H' E R' _ => ⟨fun hi => ⟨vs, R.tupS E.up s, by rw [enumL_len] at hi; rw [← r.length]; exact hi⟩, fun x hx => ?_⟩⟩
  rw [enumL_get, Option.map_eq_some_iff] at hx
  obtain ⟨y, hy, rfl⟩ := hx
  obtain ⟨v, hv, rv⟩ := (r.mono R E).get hy
  refine ⟨⟨vs, v, R.tupS E.up s, hv⟩, fun w H'' hy => ?_⟩
  obtain ⟨T, u, rfl, hT, rfl, f⟩ := hy
  have := f _ (R.tupS E.up s)
  rw [hv] at this; cases this
  exact pair_new R' hT (.int _) rv
theorem it_enF {a : Addr} {xs : List PV} {vs : List V} (R : RS K cm μ S H) (s : FL K H a vs) (l : xs.length ≤ sizeLine) (r : RVs K μ H xs vs) : ItOk K cm (Ite K a) μ H (enumL xs, none) := by
  refine ⟨by rw [enumL_len]; exact l, fun i μ' S' H' E R' _ => ⟨fun hi => ⟨vs, (R.flS E.up s).sq, by rw [enumL_len] at hi; rw [← r.length]; exact hi⟩, fun x hx => ?_⟩⟩
  rw [enumL_get, Option.map_eq_some_iff] at hx
  obtain ⟨y, hy, rfl⟩ := hx
  obtain ⟨v, hv, rv⟩ := (r.mono R E).get hy
  refine ⟨⟨vs, v, (R.flS E.up s).sq, hv⟩, fun w H'' hy => ?_⟩
  obtain ⟨T, u, rfl, hT, rfl, f⟩ := hy
  have := f _ (R.flS E.up s).sq
  rw [hv] at this; cases this
  exact pair_new R' hT (.int _) rv
theorem it_enR {a : Addr} {j : Nat} {xs : List PV} (R : RS K cm μ S H) (hj : μ[j]? = some a) (hS : S[j]? = some (.lst xs)) : ItOk K cm (Ite K a) μ H (enumL xs, some (.one j xs)) := by
  obtain ⟨vs0, h0, l0, r0⟩ := R.ob j a _ hj hS
  refine ⟨by rw [enumL_len]; exact l0, fun i μ' S' H' E R' lk => ?_⟩
  have lk : S'[j]? = some (.lst xs) := lk
  obtain ⟨vs, hs, _, r⟩ := R'.ob j a _ (E.pre _ _ hj) lk
  refine ⟨fun hi => ⟨vs, SqL.of hs, by rw [enumL_len] at hi; rw [← r.length]; exact hi⟩, fun x hx => ?_⟩
  rw [enumL_get, Option.map_eq_some_iff] at hx
  obtain ⟨y, hy, rfl⟩ := hx
  obtain ⟨v, hv, rv⟩ := r.get hy
  refine ⟨⟨vs, v, SqL.of hs, hv⟩, fun w H'' hy => ?_⟩
  obtain ⟨T, u, rfl, hT, rfl, f⟩ := hy
  have := f _ (SqL.of hs)
  rw [hv] at this; cases this
  exact pair_new R' hT (.int _) rv
theorem zip_at {xs ys : List PV} {i : Nat} {z : PV} (h : (zipL xs ys)[i]? = some z) : ∃ x y, xs[i]? = some x ∧ ys[i]? = some y ∧ z = .tup [x, y] := by
  rw [zipL_get] at h
  split at h
  · rename_i x y hx hy; cases h; exact ⟨x, y, hx, hy, rfl⟩
  · cases h
theorem zip_end {xs ys : List PV} {vs ws : List V} {i : Nat} (r : RVs K μ H xs vs) (r2 : RVs K μ H ys ws) (h : (zipL xs ys).length ≤ i) : vs.length ≤ i ∨ ws.length ≤ i := by
  have a := r.length
  have b := r2.length
  rw [zipL_len] at h
  omega
theorem it_zpT {a b : Addr} {xs ys : List PV} {vs ws : List V} (R : RS K cm μ S H) (s : SqT K H a vs) (s2 : SqT K H b ws) (l : xs.length ≤ sizeLine) (r : RVs K μ H xs vs) (r2 : RVs K μ H ys ws) : ItOk K cm (RZ.ItzT K a b) μ H (zipL xs ys, none) := by
  refine ⟨by rw [zipL_len]; omega, fun i μ' S' H' E R' _ => ⟨fun hi => ⟨vs, ws, R.tupS E.up s, R.tupS E.up s2, zip_end r r2 hi⟩, fun x hx => ?_⟩⟩
  obtain ⟨x, y, hx1, hy1, rfl⟩ := zip_at hx
  obtain ⟨v, hv, rv⟩ := (r.mono R E).get hx1
  obtain ⟨w, hw, rw'⟩ := (r2.mono R E).get hy1
  refine ⟨⟨vs, ws, v, w, R.tupS E.up s, R.tupS E.up s2, hv, hw⟩, fun w' H'' hy => ?_⟩
  obtain ⟨T, u, u2, rfl, hT, rfl, f, f2⟩ := hy
  have := f _ (R.tupS E.up s)
  rw [hv] at this; cases this
  have := f2 _ (R.tupS E.up s2)
  rw [hw] at this; cases this
  exact pair_new R' hT rv rw'
/-- two lists as they stand at each turn -/
theorem it_zpL {a b : Addr} {xs ys : List PV} {lk : Option Lk} (lx : xs.length ≤ sizeLine)
    (h : ∀ μ' S' H', Ext μ H μ' H' → RS K cm μ' S' H' → lkI (zipL xs ys, lk) S' → ∃ vs ws, SqL K H' a vs ∧ SqL K H' b ws ∧ RVs K μ' H' xs vs ∧ RVs K μ' H' ys ws) : ItOk K cm (Itz K a b) μ H (zipL xs ys, lk) := by
  refine ⟨by rw [zipL_len]; omega, fun i μ' S' H' E R' l => ?_⟩
  obtain ⟨vs, ws, s, s2, r, r2⟩ := h μ' S' H' E R' l
  refine ⟨fun hi => ⟨vs, ws, s, s2, zip_end r r2 hi⟩, fun x hx => ?_⟩
  obtain ⟨x, y, hx1, hy1, rfl⟩ := zip_at hx
  obtain ⟨v, hv, rv⟩ := r.get hx1
  obtain ⟨w, hw, rw'⟩ := r2.get hy1
  refine ⟨⟨vs, ws, v, w, s, s2, hv, hw⟩, fun w' H'' hy => ?_⟩
  obtain ⟨T, u, u2, rfl, hT, rfl, f, f2⟩ := hy
  have := f _ s
  rw [hv] at this; cases this
  have := f2 _ s2
  rw [hw] at this; cases this
  exact pair_new R' hT rv rw'
end
/-- what enumerate tells -/
def itemsE (x : PV) (S : Store) : Option LI := match x with
  | .tup xs => some (enumL xs, none)
  | .frl xs => some (enumL xs, none)
  | .ref i => match S[i]? with
    | some (.lst xs) => some (enumL xs, some (.one i xs))
    | _ => none
  | _ => none
def iEn (e : TV) : TIt := fun ρ S => (e ρ S).bind fun x S => match itemsE x S with
  | some l => .ok l S
  | none => .bad
/-- what zip tells -/
def itemsZ (x y : PV) (S : Store) : Option LI := match x, y with
  | .tup xs, .tup ys => some (zipL xs ys, none)
  | .frl xs, .frl ys => some (zipL xs ys, none)
  | .ref i, .ref j => match S[i]?, S[j]? with
    | some (.lst xs), some (.lst ys) => some (zipL xs ys, some (.two i xs j ys))
    | _, _ => none
  | .frl xs, .ref j => match S[j]? with
    | some (.lst ys) => some (zipL xs ys, some (.one j ys))
    | _ => none
  | .ref i, .frl ys => match S[i]? with
    | some (.lst xs) => some (zipL xs ys, some (.one i xs))
    | _ => none
  | _, _ => none
def iZp (es : TVs) : TIt := fun ρ S => (es ρ S).bind fun xs S => match xs with
  | [x, y] => match itemsZ x y S with
    | some l => .ok l S
    | none => .bad
  | _ => .bad
section
variable {X : Cx} {W : WX} {e : Expr} {es : List Expr} {evs : TVs} {ev : TV} {p pos tpos : Pos} {elts : List Expr} {kk : Nat}
theorem si_enum (hg : Gl X "enumerate") (hm : X.mg "enumerate" = none) (he : PE X e (E_ X W ev)) (hs : starEach [e] X.env = [(false, eval e X.env)] := by rfl) :
    PI X (.Tuple elts kk tpos) (.Call (.Name "enumerate" p) [e] [] pos) (I_ X W (iEn ev)) := by
  have ha : PA X [e] (A_ X W (vsCons ev vsNil)) := sa_cons he sa_nil (by rw [hs]; rfl)
  refine ⟨fun pins s σ H R' I h => ?_⟩
  obtain ⟨μ, S, ρ, R, E, p⟩ := h
  unfold iEn at p
  have hv : vsCons ev vsNil ρ S = (ev ρ S).bind fun x S => .ok [x] S := by
    unfold vsCons vsNil
    cases ev ρ S <;> rfl
  cases hr : ev ρ S with
  | bad => rw [hr] at p; exact p.elim
  | exc x S1 =>
    refine (pi_enum hg hm ha hs).run pins s σ H R' I ⟨μ, S, ρ, R, E, ?_⟩
    rw [hv, hr]
    rw [hr] at p
    exact p
  | ok x S1 =>
    rw [hr] at p
    simp only [bind_ok] at p
    cases x with
    | tup xs =>
      refine (pi_enumT hg hm ha hs).run pins s σ H R' I ⟨μ, S, ρ, R, E, ?_⟩
      rw [hv, hr]
      intro μ1 H1 v E1 R1 rv
      cases rv with
      | cons rv t =>
        cases t
        cases rv with
        | tup s l r => exact ⟨_, _, rfl, s, p μ1 H1 _ E1 R1 (it_enT R1 s l r)⟩
    | frl xs =>
      refine (pi_enum hg hm ha hs).run pins s σ H R' I ⟨μ, S, ρ, R, E, ?_⟩
      rw [hv, hr]
      intro μ1 H1 v E1 R1 rv
      cases rv with
      | cons rv t =>
        cases t
        cases rv with
        | frl s l r => exact ⟨_, _, rfl, s.sq, p μ1 H1 _ E1 R1 (it_enF R1 s l r)⟩
    | ref i =>
      refine (pi_enum hg hm ha hs).run pins s σ H R' I ⟨μ, S, ρ, R, E, ?_⟩
      rw [hv, hr]
      intro μ1 H1 v E1 R1 rv
      simp only [itemsE] at p
      cases rv with
      | cons rv t =>
        cases t
        cases rv with
        | @ref _ a hi =>
          cases hS : S1[i]? with
          | none => rw [hS] at p; exact p.elim
          | some o =>
            rw [hS] at p
            cases o with
            | lst xs =>
              obtain ⟨vs, h1, _, r⟩ := R1.ob i a _ hi hS
              exact ⟨a, vs, rfl, SqL.of h1, p μ1 H1 _ E1 R1 (it_enR R1 hi hS)⟩
            | dic _ => exact p.elim
            | ins _ _ => exact p.elim
    | non => exact p.elim
    | bl _ => exact p.elim
    | int _ => exact p.elim
    | str _ => exact p.elim
theorem si_zip {e2 : Expr} (hg : Gl X "zip") (hm : X.mg "zip" = none) (ha : PA X [e, e2] (A_ X W evs))
    (hs : starEach [e, e2] X.env = (false, eval e X.env) :: starEach [e2] X.env := by rfl) (hpl : (backTo pos (starEach [e2] X.env)).any (·.1) = false := by rfl) :
    PI X (.Tuple elts kk tpos) (.Call (.Name "zip" p) [e, e2] [] pos) (I_ X W (iZp evs)) := by
  refine PI.imp (RZ.pi_zipA hg hm ha hs hpl) fun σ H R' h => ?_
  obtain ⟨μ, S, ρ, R, E, p⟩ := h
  refine ⟨μ, S, ρ, R, E, ?_⟩
  unfold iZp at p
  cases hr : evs ρ S with
  | bad => rw [hr] at p; exact p
  | exc x S1 => rw [hr] at p; exact p
  | ok xs S1 =>
    rw [hr] at p
    simp only [bind_ok] at p
    intro μ1 H1 vs E1 R1 rvs
    split at p
    · rename_i x y
      cases rvs with
      | cons rx t =>
        cases t with
        | cons ry t =>
          cases t
          cases rx with
          | tup s l r =>
            cases ry with
            | tup s2 l2 r2 => exact ⟨_, _, _, _, rfl, .inr ⟨s, s2, p μ1 H1 _ E1 R1 (it_zpT R1 s s2 l r r2)⟩⟩
            | _ => exact p.elim
          | frl s l r =>
            cases ry with
            | frl s2 l2 r2 =>
              exact ⟨_, _, _, _, rfl, .inl ⟨s.sq, s2.sq, p μ1 H1 _ E1 R1 (it_zpL l fun μ' S' H' E' R'' _ => ⟨_, _, (R1.flS E'.up s).sq, (R1.flS E'.up s2).sq, r.mono R1 E', r2.mono R1 E'⟩)⟩⟩
            | @ref j b hj =>
              simp only [itemsZ] at p
              cases hS : S1[j]? with
              | none => rw [hS] at p; exact p.elim
              | some o =>
                rw [hS] at p
                cases o with
                | lst ys =>
                  obtain ⟨ws, h1, _, r2⟩ := R1.ob j b _ hj hS
                  exact ⟨_, _, _, _, rfl, .inl ⟨s.sq, SqL.of h1, p μ1 H1 _ E1 R1 (it_zpL l fun μ' S' H' E' R'' lk => by
                    obtain ⟨ws', h2, _, r3⟩ := R''.ob j b _ (E'.pre _ _ hj) (show S'[j]? = some (.lst ys) from lk)
                    exact ⟨_, _, (R1.flS E'.up s).sq, SqL.of h2, r.mono R1 E', r3⟩)⟩⟩
                | dic _ => exact p.elim
                | ins _ _ => exact p.elim
            | _ => exact p.elim
          | @ref i a hi =>
            cases ry with
            | frl s2 l2 r2 =>
              simp only [itemsZ] at p
              cases hS : S1[i]? with
              | none => rw [hS] at p; exact p.elim
              | some o =>
                rw [hS] at p
                cases o with
                | lst xs =>
                  obtain ⟨ws, h1, l1, r1⟩ := R1.ob i a _ hi hS
                  exact ⟨_, _, _, _, rfl, .inl ⟨SqL.of h1, s2.sq, p μ1 H1 _ E1 R1 (it_zpL l1 fun μ' S' H' E' R'' lk => by
                    obtain ⟨ws', h2, _, r3⟩ := R''.ob i a _ (E'.pre _ _ hi) (show S'[i]? = some (.lst xs) from lk)
                    exact ⟨_, _, SqL.of h2, (R1.flS E'.up s2).sq, r3, r2.mono R1 E'⟩)⟩⟩
                | dic _ => exact p.elim
                | ins _ _ => exact p.elim
            | @ref j b hj =>
              simp only [itemsZ] at p
              cases hS : S1[i]? with
              | none => rw [hS] at p; exact p.elim
              | some o =>
                rw [hS] at p
                cases o with
                | lst xs =>
                  cases hS2 : S1[j]? with
                  | none => rw [hS2] at p; exact p.elim
                  | some o2 =>
                    rw [hS2] at p
                    cases o2 with
                    | lst ys =>
                      obtain ⟨ws, h1, l1, r1⟩ := R1.ob i a _ hi hS
                      obtain ⟨ws2, h2, l2, r2⟩ := R1.ob j b _ hj hS2
                      exact ⟨_, _, _, _, rfl, .inl ⟨SqL.of h1, SqL.of h2, p μ1 H1 _ E1 R1 (it_zpL l1 fun μ' S' H' E' R'' lk => by
                        have lk : S'[i]? = some (.lst xs) ∧ S'[j]? = some (.lst ys) := lk
                        obtain ⟨u1, g1, _, q1⟩ := R''.ob i a _ (E'.pre _ _ hi) lk.1
                        obtain ⟨u2, g2, _, q2⟩ := R''.ob j b _ (E'.pre _ _ hj) lk.2
                        exact ⟨_, _, SqL.of g1, SqL.of g2, q1, q2⟩)⟩⟩
                    | dic _ => exact p.elim
                    | ins _ _ => exact p.elim
                | dic _ => exact p.elim
                | ins _ _ => exact p.elim
            | _ => exact p.elim
          | _ => exact p.elim
    · exact p.elim
end
/-! ### rules -/
section
variable {QI : LI → Store → Prop} {E : PX → Store → Prop} {ρ : Env'} {S : Store} {e : TV} {es : TVs}
theorem w_iEn (h : W (e ρ S) (fun x S => Op (itemsE x S) fun l => QI l S) E) : W (iEn e ρ S) QI E := by
  refine W_bind (W_mono h (fun x S h => ?_) fun _ _ h => h)
  cases hf : itemsE x S with
  | none => rw [hf] at h; exact h.elim
  | some u => rw [hf] at h; exact h
def itemsZs (xs : List PV) (S : Store) : Option LI := match xs with
  | [x, y] => itemsZ x y S
  | _ => none
theorem w_iZp (h : W (es ρ S) (fun xs S => Op (itemsZs xs S) fun l => QI l S) E) : W (iZp es ρ S) QI E := by
  refine W_bind (W_mono h (fun xs S h => ?_) fun _ _ h => h)
  unfold itemsZs at h
  split at h
  · rename_i x y
    cases hf : itemsZ x y S with
    | none => rw [hf] at h; exact h.elim
    | some u => rw [hf] at h; exact h
  · exact h.elim
theorem zs_two {x y : PV} {Q : LI → Prop} (q : Op (itemsZ x y S) Q) : Op (itemsZs [x, y] S) Q := q
variable {P : LI → Prop}
theorem en_tup {xs : List PV} (q : P (enumL xs, none)) : Op (itemsE (.tup xs) S) P := q
theorem en_frl {xs : List PV} (q : P (enumL xs, none)) : Op (itemsE (.frl xs) S) P := q
theorem en_ref {j : Nat} {xs : List PV} (g : S[j]? = some (.lst xs)) (q : P (enumL xs, some (.one j xs))) : Op (itemsE (.ref j) S) P := Op.of (by simp only [itemsE, g]) q
theorem z_tup {xs ys : List PV} (q : P (zipL xs ys, none)) : Op (itemsZ (.tup xs) (.tup ys) S) P := q
theorem z_ref {i j : Nat} {xs ys : List PV} (g : S[i]? = some (.lst xs)) (g2 : S[j]? = some (.lst ys)) (q : P (zipL xs ys, some (.two i xs j ys))) : Op (itemsZ (.ref i) (.ref j) S) P := Op.of (by simp only [itemsZ, g, g2]) q
theorem i_frl {xs : List PV} (q : P (xs, none)) : Op (itemsOf (.frl xs) S) P := q
end
local macro_rules | `(tactic| walk_at "f") => `(tactic| with_reducible first | refine w_iEn ?_ | refine w_iZp ?_ | refine zs_two ?_ | refine en_tup ?_ | refine en_frl ?_ | refine z_tup ?_ | refine i_frl ?_ | refine w_revT ?_)
end Ev

/-! Fw41 -/
namespace Ev
open PySem PySem.Spec PyProof.Rows L2 SX
local macro_rules | `(tactic| walk_at "w") => `(tactic| first
  | (with_reducible apply s_set; focus (repeat first | exact SetR.zero | apply SetR.succ))
  | (with_reducible apply w_get; focus (repeat first | exact GetR.zero | apply GetR.succ))
  | with_reducible first
  | refine s_seqN ?_ | refine s_seq ?_ | refine q_nx ?_ | refine q_ret ?_ | refine q_brk ?_ | refine q_cnt ?_ | refine q_exc ?_
  | refine s_nil ?_ | refine s_pass ?_ | refine s_brk ?_ | refine s_cnt ?_ | refine s_expr ?_ | refine s_ret ?_ | refine s_retN ?_ | refine s_if ?_ | refine s_unp ?_ | refine s_sub ?_ | refine s_for ?_
  | refine w_c ?_ | (refine w_str ?_ ?_; decide +kernel) | refine w_bin ?_ | refine w_un ?_ | refine w_chn ?_ | refine w_bV ?_ | refine w_bBl ?_ | refine w_bAnd ?_ | refine w_bOr ?_ | refine w_bNot ?_ | refine w_bYes ?_
  | refine w_vAnd ?_ | refine w_vOr ?_ | refine w_vNot ?_ | refine w_vIf ?_ | refine w_nil ?_ | refine w_cons ?_ | refine w_tup ?_ | refine w_disp ?_ | refine w_new ?_ | refine lnew ?_ | refine w_oNone ?_ | refine w_oSome ?_ | refine w_slc ?_ | refine w_lslc ?_ | refine slcT ?_ | refine slcS ?_
  | refine w_call ?_ | refine w_callL ?_ | refine w_lcallL ?_ | refine w_lcallN ?_ | refine w_isi ?_ | refine w_app ?_ | refine w_app0 ?_ | refine w_lval ?_ | refine w_cat ?_ | refine w_eqL ?_ | refine w_lm ?_ | refine w_ext ?_ | refine w_sm ?_ | refine w_sm0 ?_ | refine w_lsm ?_ | refine w_smL ?_ | refine w_dic0 ?_ | refine w_dic1 ?_ | refine w_iV ?_ | refine w_iL ?_ | refine il_none ?_ | refine il_some ?_ | refine w_rng ?_ | refine w_comp ?_ | refine w_rev ?_ | refine w_lenSet ?_ | refine w_extV ?_
  | refine o_addI ?_ | refine o_iadd ?_ | refine o_sub ?_ | refine o_neg ?_ | refine o_ltI ?_ | refine o_le ?_ | refine o_gt ?_ | refine o_ge ?_ | refine o_is ?_ | refine o_isNot ?_ | refine o_lenT ?_ | refine o_lenF ?_ | refine o_lenS ?_ | refine o_intB ?_ | refine o_intI ?_ | refine o_max ?_ | refine o_min ?_ | refine o_tupT ?_ | refine o_eqI ?_ | refine o_eqS ?_ | refine o_eqB ?_
  | refine b_is ?_ | refine i_is ?_ | refine s_is ?_ | refine i_tup ?_ | refine i_str ?_ | refine tr_bl ?_ | refine ty_bl ?_ | refine ty_str ?_ | refine ty_tup ?_ | refine ty_int ?_ | refine k_s ?_ | refine k_i ?_
  | refine Br.tt ?_ | refine Br.ff ?_ | refine Br.nf ?_ | refine Br.nt ?_ | refine f_ret ?_ | refine f_nx ?_ | refine f_body ?_)
local macro_rules | `(tactic| walk_at "sget") => `(tactic| first
  | assumption | exact get_app _ _ _ | exact trivial
  | (refine get_set ?_; walk_at "sget") | (refine get_app_lt ?_; walk_at "sget"))
local macro_rules | `(tactic| walk_at "len") => `(tactic| first
  | exact Nat.zero_le _ | exact len_le rfl
  | (have hbig := sizeLine_eq; simp only [List.length_map, List.length_cons, List.length_nil, List.length_append, List.length_take, List.length_drop, List.length_reverse, List.length_set, List.length_range]; omega))
local macro_rules | `(tactic| walk_at "off") => `(tactic| focus rfl)
local macro_rules | `(tactic| walk_at "e") => `(tactic| simp only [wipeE, reset, List.foldl_cons, List.foldl_nil, List.set_cons_succ, List.set_cons_zero])
local macro_rules | `(tactic| walk_at "kp") => `(tactic| first | assumption | exact Kp.refl _ | exact Kp.app _ _ | (refine Kp.trans ?_ (Kp.app _ _); walk_at "kp"))
local macro_rules | `(tactic| walk_at "set") => `(tactic| first | exact setR0 | exact setR1 | exact setR2 | exact setR3 | exact setR4 | exact setR5 | exact setR6 | exact setR7 | exact setR8 | exact setR9 | exact setR10 | exact setR11 | exact setR12 | (repeat first | exact SetR.zero | apply SetR.succ))
local macro_rules | `(tactic| walk_at "f") => `(tactic| fail)
local macro_rules | `(tactic| walk_at "x") => `(tactic| first
  | ((with_reducible show W _ _ _); first
    | ((with_reducible apply w_var); (focus exact rfl))
    | with_reducible first | refine w_c ?_ | refine w_cons ?_ | refine w_nil ?_ | refine w_bin ?_ | refine w_app ?_ | refine w_call ?_ | refine w_tup ?_ | refine w_bBl ?_ | refine w_new ?_ | refine w_iV ?_ | refine w_comp ?_ | refine w_iL ?_ | refine w_bV ?_ | refine w_disp ?_ | refine w_vAnd ?_ | refine w_vOr ?_ | refine w_bAnd ?_ | refine w_bOr ?_ | refine w_bNot ?_ | refine w_bYes ?_ | refine w_isi ?_ | refine w_callL ?_ | refine w_lval ?_ | refine w_lm ?_ | refine w_chn ?_ | refine w_un ?_ | refine w_oNone ?_ | refine w_oSome ?_ | refine w_slc ?_ | refine w_lslc ?_ | refine w_rng ?_ | refine w_vNot ?_ | refine w_vIf ?_ | refine w_cat ?_ | refine w_eqL ?_ | refine w_lenSet ?_ | refine w_app0 ?_ | refine w_extV ?_ | refine w_ext ?_ | refine w_lcallL ?_ | refine w_lcallN ?_ | refine w_sm ?_ | refine w_sm0 ?_ | refine w_lsm ?_ | refine w_smL ?_ | refine w_dic0 ?_ | refine w_dic1 ?_ | refine w_rev ?_ | refine f_ret ?_ | refine f_nx ?_
    | ((with_reducible refine g_keep ?_ ?_ ?_); (focus walk_at "kp"); (focus rfl))
    | (with_reducible refine w_str ?_ ?_; decide +kernel)
    | walk_at "f"
    | with_reducible refine f_body ?_)
  | ((with_reducible show WS _ _); first
    | with_reducible first | refine s_seqN ?_ | refine s_seq ?_ | refine q_nx ?_
    | ((with_reducible apply s_set); (focus walk_at "set"))
    | with_reducible first | refine s_expr ?_ | refine s_ret ?_ | refine s_if ?_ | refine s_nil ?_ | refine q_ret ?_ | refine s_unp ?_ | refine s_sub ?_ | refine s_for ?_ | refine q_cnt ?_ | refine q_brk ?_ | refine q_exc ?_ | refine s_retN ?_ | refine s_cnt ?_ | refine s_brk ?_ | refine s_pass ?_)
  | ((with_reducible show Op _ _); first
    | ((with_reducible apply t_n); (focus walk_at "set"))
    | with_reducible first
      | refine t_cons ?_ | refine t_nil ?_ | refine t_tup ?_ | refine i_tup ?_
      | refine o_lenT ?_
      | refine o_eqS ?_ | refine o_eqI ?_ | refine o_eqB ?_ | refine o_neI ?_ | refine o_neS ?_ | refine o_neB ?_ | refine o_is ?_ | refine o_isNot ?_ | refine o_isT ?_ | refine o_isNT ?_ | refine o_isF ?_ | refine o_isNF ?_
      | refine o_addI ?_ | refine o_sub ?_ | refine o_neg ?_ | refine o_ltI ?_ | refine o_le ?_ | refine o_gt ?_ | refine o_ge ?_ | refine o_iadd ?_
      | refine tr_bl ?_ | refine ty_bl ?_ | refine ty_str ?_ | refine ty_tup ?_ | refine ty_int ?_ | refine o_tupT ?_
      | refine o_lenF ?_ | refine o_lenS ?_ | refine o_intB ?_ | refine o_intI ?_ | refine o_max ?_ | refine o_min ?_ | refine i_str ?_ | refine k_s ?_ | refine k_i ?_
    | ((with_reducible apply o_idxT); (focus first | exact at0 _ _ | exact at1 _ _ _ | exact at2 _ _ _ _ | exact at3 _ _ _ _ _))
    | ((with_reducible apply i_ref); (focus walk_at "sget"))
    | ((with_reducible apply o_getL); (focus walk_at "sget"))
    | ((with_reducible apply o_lenR); (focus walk_at "sget"))
    | ((with_reducible apply o_idxR); (focus walk_at "sget"); (focus first | exact at0 _ _ | exact at1 _ _ _ | exact at2 _ _ _ _))
    | ((with_reducible apply o_tupR); (focus walk_at "sget"))
    | ((with_reducible apply o_listR); (focus walk_at "sget"))
    | ((with_reducible refine o_mod ?_ ?_); (focus omega))
    | ((with_reducible refine o_div ?_ ?_); (focus omega))
    | ((with_reducible refine o_pow ?_ ?_); (focus decide))
    | ((with_reducible refine o_app ?_ ?_); (focus walk_at "len"))
    | walk_at "f")
  | with_reducible first | refine b_is ?_ | refine i_is ?_ | refine s_is ?_ | refine Br.tt ?_ | refine Br.ff ?_ | refine Br.nf ?_ | refine Br.nt ?_ | refine lnew ?_ | refine il_none ?_ | refine il_some ?_ | refine revT ?_ | refine slcT ?_ | refine slcS ?_
  | ((with_reducible refine Br.of_tt ?_ ?_); focus (first | assumption | rfl | exact beq_self_eq_true _ | (simp only [decide_eq_true_eq]; omega)))
  | ((with_reducible refine Br.of_ff ?_ ?_); focus (first | assumption | rfl | (rw [beq_self_eq_true]; rfl) | (simp only [decide_eq_false_iff_not]; omega)))
  | ((with_reducible refine And.intro ?_ ?_); (focus first | ((with_reducible show _ ≤ sizeLine); walk_at "len") | ((with_reducible show lkOk _ _); walk_at "sget")))
  | ((with_reducible refine seek_nx ?_ ?_); (focus rfl); walk_at "off") | ((with_reducible refine seek_cnt ?_ ?_); (focus rfl); walk_at "off") | ((with_reducible refine seek_ret ?_); focus rfl))
local macro_rules | `(tactic| walk_at "b") => `(tactic| with_reducible first | refine b_is ?_ | refine Br.tt ?_ | refine Br.ff ?_ | refine Br.nf ?_ | refine Br.nt ?_ | refine tr_bl ?_)
local macro_rules | `(tactic| walk_at "y") => `(tactic| (fail_if_success (with_reducible refine s_if ?_)); walk_at "x")
local macro_rules | `(tactic| walk_at "f") => `(tactic| with_reducible first | refine w_iEn ?_ | refine w_iZp ?_ | refine zs_two ?_ | refine en_tup ?_ | refine en_frl ?_ | refine z_tup ?_ | refine i_frl ?_ | refine w_revT ?_)
noncomputable def bLIsName : TSt :=   (sSeq (sIf (bOr (bNot (bV (vIsi "str" (vVar 0)))) (bOr (bBl (vBin oLt (vCall fLen (vsCons (vVar 0) vsNil)) (vC (.int 1)))) (bOr (bBl (vBin oGt (vCall fLen (vsCons (vVar 0) vsNil)) (vC (.int 8)))) (bBl (vBin oIn (vVar 0) (vApp0 (fnV 0 1 bBarred))))))) (sSeq (sRet (vC (.bl false))) sNil) sNil) (sSeq (sRet (vEqL false (lComp (tgN 1) (iV (vVar 0)) (bBl (vBin oNotIn (vVar 1) (vStr "abcdefghijklmnopqrstuvwxyz"))) (vVar 1) [1]) (lDisp vsNil))) sNil))
noncomputable def bLRowOf : TSt :=   (sSeq (sRet (vAnd (vIsi "tuple" (vVar 0)) (vAnd (vBin oLe (vVar 1) (vCall fLen (vsCons (vVar 0) vsNil))) (vBin oLe (vCall fLen (vsCons (vVar 0) vsNil)) (vVar 2))))) sNil)
noncomputable def bLTwice : TSt :=   (sSeq (sRet (vEqL true (lComp (tgT (tgCons (tgN 1) (tgCons (tgN 2) tgNil))) (iEn (vVar 0)) (bBl (vBin oIn (vVar 2) (vNew (lSlc (vVar 0) oNone (oSome (vVar 1)))))) (vVar 2) [1, 2]) (lDisp vsNil))) sNil)
noncomputable def bLOutRight : TSt :=   (sSeq (sIf (bOr (bNot (bV (vApp (fnV 3 3 bLRowOf) (vsCons (vVar 0) (vsCons (vC (.int 3)) (vsCons (vC (.int 3)) vsNil)))))) (bNot (bV (vApp (fnV 1 2 bLIsName) (vsCons (vBin oIdx (vVar 0) (vC (.int 0))) vsNil))))) (sSeq (sRet (vC (.bl false))) sNil) sNil) (sSeq (sRet (vAnd (vOr (vBin oIs (vBin oIdx (vVar 0) (vC (.int 1))) (vC .non)) (vApp (fnV 1 2 bLIsName) (vsCons (vBin oIdx (vVar 0) (vC (.int 1))) vsNil))) (vOr (vBin oIs (vBin oIdx (vVar 0) (vC (.int 2))) (vC .non)) (vApp (fnV 1 2 bLIsName) (vsCons (vBin oIdx (vVar 0) (vC (.int 2))) vsNil))))) sNil))
section
variable {Q : PV → Store → Prop} {E : PX → Store → Prop} {S0 : Store}
theorem in_letters (S0 : Store) (c : Nat) : inS S0 (.str ⟨#[c]⟩) (.str (Str.ofString "abcdefghijklmnopqrstuvwxyz")) = some (decide (c ∈ lt26)) := by
  rw [lt26_eq]
  exact congrArg some (inStr_one lt26 c)
theorem L_is_name_w {x : PV} (t : tyd S0 x) (q : Q (.bl (nm x)) S0) : W (fnV 1 2 bLIsName [x] S0) Q E := by
  refine w_fn rfl ?_
  show WS (bLIsName [some x, none] S0) _
  unfold bLIsName
  obtain ⟨ty, ht⟩ := t
  repeat walk_at "x"
  refine Op.of ht ?_
  by_cases hx : ∃ z, x = .str z
  · obtain ⟨z, rfl⟩ := hx
    cases ht
    have e : nm (.str z) = (decide (1 ≤ z.length) && (decide (z.length ≤ 8) && (!decide (z ∈ barL) && z.cps.toList.all fun c => decide (c ∈ lt26)))) := rfl
    rw [e] at q
    repeat walk_at "x"
    by_cases h1 : z.length < 1
    · refine Br.of_tt (by simp; omega) ?_
      rw [decide_eq_false (p := 1 ≤ z.length) (by omega)] at q
      repeat walk_at "x"
      exact q
    refine Br.of_ff (by simp; omega) ?_
    repeat walk_at "x"
    by_cases h2 : 8 < z.length
    · refine Br.of_tt (by simp; omega) ?_
      rw [decide_eq_false (p := z.length ≤ 8) (by omega)] at q
      repeat walk_at "x"
      simpa using q
    refine Br.of_ff (by simp; omega) ?_
    rw [decide_eq_true (p := 1 ≤ z.length) (by omega), decide_eq_true (p := z.length ≤ 8) (by omega)] at q
    repeat walk_at "x"
    refine barred_w ?_
    refine o_in (in_strs (get_app _ _ _) _) ?_
    repeat walk_at "x"
    cases h3 : decide (z ∈ barL)
    · rw [h3] at q
      repeat walk_at "x"
      walk_at "e"
      refine w_pureF (fun c : Nat => .str ⟨#[c]⟩) (fun c => !decide (c ∈ lt26)) trivial (fun c _ => ?_) ?_
      · repeat walk_at "x"
        refine o_notIn (in_letters _ c) ?_
        exact ⟨⟨rfl, rfl⟩, fun _ => by repeat walk_at "x"; exact ⟨rfl, rfl⟩⟩
      · repeat walk_at "x"
        refine Op.of (eq_empty _) ?_
        have e : ((z.cps.toList.filter fun c => !decide (c ∈ lt26)).map fun c => PV.str ⟨#[c]⟩).isEmpty = z.cps.toList.all fun c => decide (c ∈ lt26) := by
          rw [Bool.eq_iff_iff, List.isEmpty_iff, List.map_eq_nil_iff, List.filter_eq_nil_iff, List.all_eq_true]
          simp only [Bool.not_eq_true', decide_eq_false_iff_not, decide_eq_true_eq, Classical.not_not]
        rw [e]
        repeat walk_at "x"
        simpa using q
    · rw [h3] at q
      repeat walk_at "x"
      simpa using q
  · rw [show isI ty "str" = false from ty_not ht fun z h => hx ⟨z, h⟩]
    rw [nm_not fun z h => hx ⟨z, h⟩] at q
    repeat walk_at "x"
    exact q
theorem rowT_w {xs : List PV} {lo hi : Int} (q : Q (.bl (decide (lo ≤ xs.length) && decide ((xs.length : Int) ≤ hi))) S0) : W (fnV 3 3 bLRowOf [.tup xs, .int lo, .int hi] S0) Q E := by
  refine w_fn rfl ?_
  show WS (bLRowOf [some (.tup xs), some (.int lo), some (.int hi)] S0) _
  unfold bLRowOf
  repeat walk_at "x"
  cases h : decide (lo ≤ (xs.length : Int))
  · rw [h] at q
    repeat walk_at "x"
    exact q
  · rw [h] at q
    repeat walk_at "x"
    exact q
theorem rowN_w {x : PV} {lo hi : Int} (t : tyd S0 x) (hx : ∀ z, x ≠ .tup z) (q : Q (.bl false) S0) : W (fnV 3 3 bLRowOf [x, .int lo, .int hi] S0) Q E := by
  refine w_fn rfl ?_
  show WS (bLRowOf [some x, some (.int lo), some (.int hi)] S0) _
  unfold bLRowOf
  obtain ⟨ty, ht⟩ := t
  repeat walk_at "x"
  refine Op.of ht ?_
  rw [ty_notT ht hx]
  repeat walk_at "x"
  exact q
/-! ### no name twice -/
theorem mem_zipIdx_take {l : List Str} : (l.zipIdx.filter fun p => decide (p.1 ∈ l.take p.2)).isEmpty = decide l.Nodup := by
  rw [Bool.eq_iff_iff, List.isEmpty_iff, List.filter_eq_nil_iff, decide_eq_true_eq]
  constructor
  · intro h
    unfold List.Nodup
    rw [List.pairwise_iff_getElem]
    intro i j hi hj hij e
    have hm : (l[j], j) ∈ l.zipIdx := List.mem_zipIdx_iff_getElem?.mpr (List.getElem?_eq_getElem hj)
    refine h _ hm (decide_eq_true ?_)
    show l[j] ∈ l.take j
    rw [← e]
    exact List.mem_take_iff_getElem.mpr ⟨i, by omega, rfl⟩
  · intro h p hp hd
    obtain ⟨x, i⟩ := p
    have hx := List.mem_zipIdx_iff_getElem?.mp hp
    have hd := of_decide_eq_true hd
    obtain ⟨j, hj, e⟩ := List.mem_take_iff_getElem.mp hd
    unfold List.Nodup at h
    rw [List.pairwise_iff_getElem] at h
    have hi := (List.getElem?_eq_some_iff.mp hx).1
    refine h j i (by omega) hi (by omega) ?_
    rw [e]
    exact (List.getElem?_eq_some_iff.mp hx).2.symm
theorem enumF_strs : ∀ (n : Nat) (l : List Str), enumF n (l.map .str) = (l.zipIdx n).map fun p => .tup [.int ((p.2 : Nat) : Int), .str p.1]
  | _, [] => rfl
  | n, x :: r => by rw [List.map_cons, enumF, enumF_strs (n + 1) r, List.zipIdx_cons, List.map_cons]
theorem twice_w {j : Nat} {l : List Str} (hj : S0[j]? = some (.lst (l.map .str))) (q : Q (.bl (!decide l.Nodup)) S0) : W (fnV 1 3 bLTwice [.ref j] S0) Q E := by
  refine w_fn rfl ?_
  show WS (bLTwice [some (.ref j), none, none] S0) _
  unfold bLTwice
  repeat walk_at "x"
  walk_at "e"
  refine en_ref hj ?_
  unfold enumL
  rw [enumF_strs]
  refine w_turns (fun rest acc T => Kp S0 T ∧ ∃ (ps qs : List (Str × Nat)), rest = qs.map (fun p => .tup [.int ((p.2 : Nat) : Int), .str p.1]) ∧ ps ++ qs = l.zipIdx ∧ acc = (ps.filter fun p => decide (p.1 ∈ l.take p.2)).map fun p => .str p.1) ⟨Kp.refl _, [], l.zipIdx, rfl, rfl, rfl⟩ (fun x rest acc T h => ?_) (fun acc T h => ?_)
  · obtain ⟨K, ps, qs, hr, hp, rfl⟩ := h
    refine ⟨K.at hj, ?_⟩
    cases qs with
    | nil => cases hr
    | cons p qs =>
      simp only [List.map_cons, List.cons.injEq] at hr
      obtain ⟨rfl, rfl⟩ := hr
      repeat walk_at "x"
      refine lslcR (K.at hj) ?_
      repeat walk_at "x"
      rw [cut_to _ (by omega), Int.toNat_natCast, ← List.map_take]
      refine o_in (in_strs (get_app _ _ _) _) ?_
      repeat walk_at "x"
      cases hb : decide (p.1 ∈ l.take p.2)
      · repeat walk_at "x"
        exact ⟨K.trans (Kp.app _ _), ps ++ [p], qs, rfl, by simpa using hp, by rw [List.filter_append, List.filter_cons, hb]; simp⟩
      · repeat walk_at "x"
        exact ⟨K.trans (Kp.app _ _), ps ++ [p], qs, rfl, by simpa using hp, by rw [List.filter_append, List.filter_cons, hb]; simp⟩
  · obtain ⟨K, ps, qs, hr, hp, rfl⟩ := h
    cases qs with
    | cons p qs => cases hr
    | nil =>
      rw [List.append_nil] at hp
      subst hp
      refine ⟨K.at hj, ?_⟩
      repeat walk_at "x"
      refine Op.of (eq_empty _) ?_
      have e : ((l.zipIdx.filter fun p => decide (p.1 ∈ l.take p.2)).map fun p => PV.str p.1).isEmpty = decide l.Nodup := by
        rw [← mem_zipIdx_take]
        cases (l.zipIdx.filter fun p => decide (p.1 ∈ l.take p.2)) <;> rfl
      rw [e]
      repeat walk_at "x"
      simpa using q
end
end Ev

/-! Fw42 -/
namespace Ev
open PySem PySem.Spec PyProof.Rows L2 SX
local macro_rules | `(tactic| walk_at "w") => `(tactic| first
  | (with_reducible apply s_set; focus (repeat first | exact SetR.zero | apply SetR.succ))
  | (with_reducible apply w_get; focus (repeat first | exact GetR.zero | apply GetR.succ))
  | with_reducible first
  | refine s_seqN ?_ | refine s_seq ?_ | refine q_nx ?_ | refine q_ret ?_ | refine q_brk ?_ | refine q_cnt ?_ | refine q_exc ?_
  | refine s_nil ?_ | refine s_pass ?_ | refine s_brk ?_ | refine s_cnt ?_ | refine s_expr ?_ | refine s_ret ?_ | refine s_retN ?_ | refine s_if ?_ | refine s_unp ?_ | refine s_sub ?_ | refine s_for ?_
  | refine w_c ?_ | (refine w_str ?_ ?_; decide +kernel) | refine w_bin ?_ | refine w_un ?_ | refine w_chn ?_ | refine w_bV ?_ | refine w_bBl ?_ | refine w_bAnd ?_ | refine w_bOr ?_ | refine w_bNot ?_ | refine w_bYes ?_
  | refine w_vAnd ?_ | refine w_vOr ?_ | refine w_vNot ?_ | refine w_vIf ?_ | refine w_nil ?_ | refine w_cons ?_ | refine w_tup ?_ | refine w_disp ?_ | refine w_new ?_ | refine lnew ?_ | refine w_oNone ?_ | refine w_oSome ?_ | refine w_slc ?_ | refine w_lslc ?_ | refine slcT ?_ | refine slcS ?_
  | refine w_call ?_ | refine w_callL ?_ | refine w_lcallL ?_ | refine w_lcallN ?_ | refine w_isi ?_ | refine w_app ?_ | refine w_app0 ?_ | refine w_lval ?_ | refine w_cat ?_ | refine w_eqL ?_ | refine w_lm ?_ | refine w_ext ?_ | refine w_sm ?_ | refine w_sm0 ?_ | refine w_lsm ?_ | refine w_smL ?_ | refine w_dic0 ?_ | refine w_dic1 ?_ | refine w_iV ?_ | refine w_iL ?_ | refine il_none ?_ | refine il_some ?_ | refine w_rng ?_ | refine w_comp ?_ | refine w_rev ?_ | refine w_lenSet ?_ | refine w_extV ?_
  | refine o_addI ?_ | refine o_iadd ?_ | refine o_sub ?_ | refine o_neg ?_ | refine o_ltI ?_ | refine o_le ?_ | refine o_gt ?_ | refine o_ge ?_ | refine o_is ?_ | refine o_isNot ?_ | refine o_lenT ?_ | refine o_lenF ?_ | refine o_lenS ?_ | refine o_intB ?_ | refine o_intI ?_ | refine o_max ?_ | refine o_min ?_ | refine o_tupT ?_ | refine o_eqI ?_ | refine o_eqS ?_ | refine o_eqB ?_
  | refine b_is ?_ | refine i_is ?_ | refine s_is ?_ | refine i_tup ?_ | refine i_str ?_ | refine tr_bl ?_ | refine ty_bl ?_ | refine ty_str ?_ | refine ty_tup ?_ | refine ty_int ?_ | refine k_s ?_ | refine k_i ?_
  | refine Br.tt ?_ | refine Br.ff ?_ | refine Br.nf ?_ | refine Br.nt ?_ | refine f_ret ?_ | refine f_nx ?_ | refine f_body ?_)
local macro_rules | `(tactic| walk_at "sget") => `(tactic| first
  | assumption | exact get_app _ _ _ | exact trivial
  | (refine get_set ?_; walk_at "sget") | (refine get_app_lt ?_; walk_at "sget"))
local macro_rules | `(tactic| walk_at "len") => `(tactic| first
  | exact Nat.zero_le _ | exact len_le rfl
  | (have hbig := sizeLine_eq; simp only [List.length_map, List.length_cons, List.length_nil, List.length_append, List.length_take, List.length_drop, List.length_reverse, List.length_set, List.length_range]; omega))
local macro_rules | `(tactic| walk_at "off") => `(tactic| focus rfl)
local macro_rules | `(tactic| walk_at "e") => `(tactic| simp only [wipeE, reset, List.foldl_cons, List.foldl_nil, List.set_cons_succ, List.set_cons_zero])
local macro_rules | `(tactic| walk_at "kp") => `(tactic| first | assumption | exact Kp.refl _ | exact Kp.app _ _ | (refine Kp.trans ?_ (Kp.app _ _); walk_at "kp"))
local macro_rules | `(tactic| walk_at "set") => `(tactic| first | exact setR0 | exact setR1 | exact setR2 | exact setR3 | exact setR4 | exact setR5 | exact setR6 | exact setR7 | exact setR8 | exact setR9 | exact setR10 | exact setR11 | exact setR12 | (repeat first | exact SetR.zero | apply SetR.succ))
local macro_rules | `(tactic| walk_at "f") => `(tactic| fail)
local macro_rules | `(tactic| walk_at "x") => `(tactic| first
  | ((with_reducible show W _ _ _); first
    | ((with_reducible apply w_var); (focus exact rfl))
    | with_reducible first | refine w_c ?_ | refine w_cons ?_ | refine w_nil ?_ | refine w_bin ?_ | refine w_app ?_ | refine w_call ?_ | refine w_tup ?_ | refine w_bBl ?_ | refine w_new ?_ | refine w_iV ?_ | refine w_comp ?_ | refine w_iL ?_ | refine w_bV ?_ | refine w_disp ?_ | refine w_vAnd ?_ | refine w_vOr ?_ | refine w_bAnd ?_ | refine w_bOr ?_ | refine w_bNot ?_ | refine w_bYes ?_ | refine w_isi ?_ | refine w_callL ?_ | refine w_lval ?_ | refine w_lm ?_ | refine w_chn ?_ | refine w_un ?_ | refine w_oNone ?_ | refine w_oSome ?_ | refine w_slc ?_ | refine w_lslc ?_ | refine w_rng ?_ | refine w_vNot ?_ | refine w_vIf ?_ | refine w_cat ?_ | refine w_eqL ?_ | refine w_lenSet ?_ | refine w_app0 ?_ | refine w_extV ?_ | refine w_ext ?_ | refine w_lcallL ?_ | refine w_lcallN ?_ | refine w_sm ?_ | refine w_sm0 ?_ | refine w_lsm ?_ | refine w_smL ?_ | refine w_dic0 ?_ | refine w_dic1 ?_ | refine w_rev ?_ | refine f_ret ?_ | refine f_nx ?_
    | ((with_reducible refine g_keep ?_ ?_ ?_); (focus walk_at "kp"); (focus rfl))
    | (with_reducible refine w_str ?_ ?_; decide +kernel)
    | walk_at "f"
    | with_reducible refine f_body ?_)
  | ((with_reducible show WS _ _); first
    | with_reducible first | refine s_seqN ?_ | refine s_seq ?_ | refine q_nx ?_
    | ((with_reducible apply s_set); (focus walk_at "set"))
    | with_reducible first | refine s_expr ?_ | refine s_ret ?_ | refine s_if ?_ | refine s_nil ?_ | refine q_ret ?_ | refine s_unp ?_ | refine s_sub ?_ | refine s_for ?_ | refine q_cnt ?_ | refine q_brk ?_ | refine q_exc ?_ | refine s_retN ?_ | refine s_cnt ?_ | refine s_brk ?_ | refine s_pass ?_)
  | ((with_reducible show Op _ _); first
    | ((with_reducible apply t_n); (focus walk_at "set"))
    | with_reducible first
      | refine t_cons ?_ | refine t_nil ?_ | refine t_tup ?_ | refine i_tup ?_
      | refine o_lenT ?_
      | refine o_eqS ?_ | refine o_eqI ?_ | refine o_eqB ?_ | refine o_neI ?_ | refine o_neS ?_ | refine o_neB ?_ | refine o_is ?_ | refine o_isNot ?_ | refine o_isT ?_ | refine o_isNT ?_ | refine o_isF ?_ | refine o_isNF ?_
      | refine o_addI ?_ | refine o_sub ?_ | refine o_neg ?_ | refine o_ltI ?_ | refine o_le ?_ | refine o_gt ?_ | refine o_ge ?_ | refine o_iadd ?_
      | refine tr_bl ?_ | refine ty_bl ?_ | refine ty_str ?_ | refine ty_tup ?_ | refine ty_int ?_ | refine o_tupT ?_
      | refine o_lenF ?_ | refine o_lenS ?_ | refine o_intB ?_ | refine o_intI ?_ | refine o_max ?_ | refine o_min ?_ | refine i_str ?_ | refine k_s ?_ | refine k_i ?_
    | ((with_reducible apply o_idxT); (focus first | exact at0 _ _ | exact at1 _ _ _ | exact at2 _ _ _ _ | exact at3 _ _ _ _ _))
    | ((with_reducible apply i_ref); (focus walk_at "sget"))
    | ((with_reducible apply o_getL); (focus walk_at "sget"))
    | ((with_reducible apply o_lenR); (focus walk_at "sget"))
    | ((with_reducible apply o_idxR); (focus walk_at "sget"); (focus first | exact at0 _ _ | exact at1 _ _ _ | exact at2 _ _ _ _))
    | ((with_reducible apply o_tupR); (focus walk_at "sget"))
    | ((with_reducible apply o_listR); (focus walk_at "sget"))
    | ((with_reducible refine o_mod ?_ ?_); (focus omega))
    | ((with_reducible refine o_div ?_ ?_); (focus omega))
    | ((with_reducible refine o_pow ?_ ?_); (focus decide))
    | ((with_reducible refine o_app ?_ ?_); (focus walk_at "len"))
    | walk_at "f")
  | with_reducible first | refine b_is ?_ | refine i_is ?_ | refine s_is ?_ | refine Br.tt ?_ | refine Br.ff ?_ | refine Br.nf ?_ | refine Br.nt ?_ | refine lnew ?_ | refine il_none ?_ | refine il_some ?_ | refine revT ?_ | refine slcT ?_ | refine slcS ?_
  | ((with_reducible refine Br.of_tt ?_ ?_); focus (first | assumption | rfl | exact beq_self_eq_true _ | (simp only [decide_eq_true_eq]; omega)))
  | ((with_reducible refine Br.of_ff ?_ ?_); focus (first | assumption | rfl | (rw [beq_self_eq_true]; rfl) | (simp only [decide_eq_false_iff_not]; omega)))
  | ((with_reducible refine And.intro ?_ ?_); (focus first | ((with_reducible show _ ≤ sizeLine); walk_at "len") | ((with_reducible show lkOk _ _); walk_at "sget")))
  | ((with_reducible refine seek_nx ?_ ?_); (focus rfl); walk_at "off") | ((with_reducible refine seek_cnt ?_ ?_); (focus rfl); walk_at "off") | ((with_reducible refine seek_ret ?_); focus rfl))
local macro_rules | `(tactic| walk_at "b") => `(tactic| with_reducible first | refine b_is ?_ | refine Br.tt ?_ | refine Br.ff ?_ | refine Br.nf ?_ | refine Br.nt ?_ | refine tr_bl ?_)
local macro_rules | `(tactic| walk_at "y") => `(tactic| (fail_if_success (with_reducible refine s_if ?_)); walk_at "x")
local macro_rules | `(tactic| walk_at "f") => `(tactic| with_reducible first | refine w_iEn ?_ | refine w_iZp ?_ | refine zs_two ?_ | refine en_tup ?_ | refine en_frl ?_ | refine z_tup ?_ | refine i_frl ?_ | refine w_revT ?_)
noncomputable def bLDeedRight : TSt :=   (sSeq (sIf (bOr (bNot (bV (vApp (fnV 3 3 bLRowOf) (vsCons (vVar 0) (vsCons (vC (.int 2)) (vsCons (vC (.int 2)) vsNil)))))) (bOr (bNot (bV (vApp (fnV 1 2 bLIsName) (vsCons (vBin oIdx (vVar 0) (vC (.int 0))) vsNil)))) (bNot (bV (vApp (fnV 3 3 bLRowOf) (vsCons (vBin oIdx (vVar 0) (vC (.int 1))) (vsCons (vC (.int 1)) (vsCons (vC (.int 6)) vsNil)))))))) (sSeq (sRet (vC (.bl false))) sNil) sNil) (sSeq (sIf (bNot (bV (vCallL fAll (lComp (tgN 1) (iV (vBin oIdx (vVar 0) (vC (.int 1)))) bYes (vApp (fnV 1 1 bLOutRight) (vsCons (vVar 1) vsNil)) [1])))) (sSeq (sRet (vC (.bl false))) sNil) sNil) (sSeq (sRet (vNot (vApp (fnV 1 3 bLTwice) (vsCons (vNew (lComp (tgN 1) (iV (vBin oIdx (vVar 0) (vC (.int 1)))) bYes (vBin oIdx (vVar 1) (vC (.int 0))) [1])) vsNil)))) sNil)))
noncomputable def bLStateRight : TSt :=   (sSeq (sIf (bOr (bNot (bV (vApp (fnV 3 3 bLRowOf) (vsCons (vVar 0) (vsCons (vC (.int 3)) (vsCons (vC (.int 3)) vsNil)))))) (bOr (bNot (bV (vApp (fnV 1 2 bLIsName) (vsCons (vBin oIdx (vVar 0) (vC (.int 0))) vsNil)))) (bNot (bV (vIsi "bool" (vBin oIdx (vVar 0) (vC (.int 1)))))))) (sSeq (sRet (vC (.bl false))) sNil) sNil) (sSeq (sIf (bOr (bNot (bV (vApp (fnV 3 3 bLRowOf) (vsCons (vBin oIdx (vVar 0) (vC (.int 2))) (vsCons (vC (.int 0)) (vsCons (vC (.int 8)) vsNil)))))) (bNot (bV (vCallL fAll (lComp (tgN 1) (iV (vBin oIdx (vVar 0) (vC (.int 2)))) bYes (vApp (fnV 1 2 bLDeedRight) (vsCons (vVar 1) vsNil)) [1]))))) (sSeq (sRet (vC (.bl false))) sNil) sNil) (sSeq (sRet (vNot (vApp (fnV 1 3 bLTwice) (vsCons (vNew (lComp (tgN 1) (iV (vBin oIdx (vVar 0) (vC (.int 2)))) bYes (vBin oIdx (vVar 1) (vC (.int 0))) [1])) vsNil)))) sNil)))
theorem W_eq {α : Type} {r : Res α} {v : α} {S' : Store} {Q : α → Store → Prop} {E : PX → Store → Prop} (h : W r (fun a S => a = v ∧ S = S') (fun _ _ => False)) (q : Q v S') : W r Q E :=
  W_mono h (fun _ _ h => by obtain ⟨rfl, rfl⟩ := h; exact q) fun _ _ h => h.elim
theorem two_or {z : List PV} (n : Nat) : (decide ((n : Int) ≤ z.length) && decide ((z.length : Int) ≤ n)) = decide (z.length = n) := by
  rw [Bool.eq_iff_iff, Bool.and_eq_true, decide_eq_true_eq, decide_eq_true_eq, decide_eq_true_eq]; omega
theorem in_or {z : List PV} (m n : Nat) : (decide ((m : Int) ≤ z.length) && decide ((z.length : Int) ≤ n)) = (decide (m ≤ z.length) && decide (z.length ≤ n)) := by
  rw [Bool.eq_iff_iff, Bool.and_eq_true, Bool.and_eq_true, decide_eq_true_eq, decide_eq_true_eq, decide_eq_true_eq, decide_eq_true_eq]; omega
theorem sOut_len {z : List PV} (h : z.length ≠ 3) : sOut (.tup z) = false := by
  unfold sOut
  split
  · rename_i heq; cases heq; simp at h
  · rfl
theorem sOut_not {x : PV} (h : ∀ z, x ≠ .tup z) : sOut x = false := by
  unfold sOut
  split
  · exact absurd rfl (h _)
  · rfl
theorem sDeed_len {z : List PV} (h : z.length ≠ 2) : sDeed (.tup z) = false := by
  unfold sDeed
  split
  · rename_i heq; cases heq; simp at h
  · rfl
theorem sDeed_not {x : PV} (h : ∀ z, x ≠ .tup z) : sDeed x = false := by
  unfold sDeed
  split
  · exact absurd rfl (h _)
  · rfl
theorem sDeed_two {a b : PV} (h : ∀ z, b ≠ .tup z) : sDeed (.tup [a, b]) = false := by
  unfold sDeed
  split
  · rename_i heq; cases heq; exact absurd rfl (h _)
  · rfl
theorem sState_len {z : List PV} (h : z.length ≠ 3) : sState (.tup z) = false := by
  unfold sState
  split
  · rename_i heq; cases heq; simp at h
  · rfl
theorem sState_not {x : PV} (h : ∀ z, x ≠ .tup z) : sState x = false := by
  unfold sState
  split
  · exact absurd rfl (h _)
  · rfl
theorem sDeeds_not {x : PV} (h : ∀ z, x ≠ .tup z) : sDeeds x = false := by
  unfold sDeeds
  split
  · exact absurd rfl (h _)
  · rfl
theorem sKind_len {z : List PV} (h : z.length ≠ 2) : sKind (.tup z) = false := by
  unfold sKind
  split
  · rename_i heq; cases heq; simp at h
  · rfl
theorem sKind_not {x : PV} (h : ∀ z, x ≠ .tup z) : sKind x = false := by
  unfold sKind
  split
  · exact absurd rfl (h _)
  · rfl
theorem sKind_two {a b : PV} (h : ∀ z, b ≠ .tup z) : sKind (.tup [a, b]) = false := by
  unfold sKind
  split
  · rename_i heq; cases heq; exact absurd rfl (h _)
  · rfl
section
variable {Q : PV → Store → Prop} {E : PX → Store → Prop} {S0 : Store}
theorem len3 {z : List PV} (h : z.length = 3) : ∃ a b c, z = [a, b, c] := by
  match z, h with
  | [a, b, c], _ => exact ⟨a, b, c, rfl⟩
theorem len2 {z : List PV} (h : z.length = 2) : ∃ a b, z = [a, b] := by
  match z, h with
  | [a, b], _ => exact ⟨a, b, rfl⟩
theorem L_out_right_w {x : PV} (t : tyD S0 x) (q : Q (.bl (sOut x)) S0) : W (fnV 1 1 bLOutRight [x] S0) Q E := by
  refine w_fn rfl ?_
  show WS (bLOutRight [some x] S0) _
  unfold bLOutRight
  repeat walk_at "x"
  by_cases hx : ∃ z, x = .tup z
  · obtain ⟨z, rfl⟩ := hx
    refine rowT_w ?_
    rw [show (decide ((3 : Int) ≤ z.length) && decide ((z.length : Int) ≤ 3)) = decide (z.length = 3) from two_or 3]
    by_cases hl : z.length = 3
    · rw [decide_eq_true hl]
      obtain ⟨a, b, c, rfl⟩ := len3 hl
      have e : sOut (.tup [a, b, c]) = (nm a && ((b.isNon || nm b) && (c.isNon || nm c))) := rfl
      rw [e] at q
      repeat walk_at "x"
      refine L_is_name_w (t.elem (by simp)).ty ?_
      cases h1 : nm a
      · rw [h1] at q
        repeat walk_at "x"
        exact q
      rw [h1, Bool.true_and] at q
      repeat walk_at "x"
      have last : W (vOr (vBin oIs (vBin oIdx (vVar 0) (vC (.int 2))) (vC .non)) (vApp (fnV 1 2 bLIsName) (vsCons (vBin oIdx (vVar 0) (vC (.int 2))) vsNil)) [some (.tup [a, b, c])] S0) (fun v S => v = .bl (c.isNon || nm c) ∧ S = S0) (fun _ _ => False) := by
        repeat walk_at "x"
        cases h : c.isNon
        · repeat walk_at "x"
          refine L_is_name_w (t.elem (by simp)).ty ?_
          exact ⟨rfl, rfl⟩
        · repeat walk_at "x"
          exact ⟨rfl, rfl⟩
      cases hb : b.isNon
      · rw [hb] at q
        repeat walk_at "x"
        refine L_is_name_w (t.elem (by simp)).ty ?_
        cases hnb : nm b
        · rw [hnb] at q
          repeat walk_at "x"
          exact q
        · rw [hnb] at q
          repeat walk_at "b"
          refine W_eq last ?_
          repeat walk_at "x"
          exact q
      · rw [hb] at q
        repeat walk_at "b"
        refine W_eq last ?_
        repeat walk_at "x"
        exact q
    · rw [decide_eq_false hl]
      repeat walk_at "x"
      rw [sOut_len hl] at q; exact q
  · refine rowN_w t.ty (fun z h => hx ⟨z, h⟩) ?_
    repeat walk_at "x"
    rw [sOut_not fun z h => hx ⟨z, h⟩] at q; exact q
theorem w_all {tg : Tgt} {el : TV} {ρ : Env'} {S : Store} {l : LI} {Q' : PV → Store → Prop} {E : PX → Store → Prop} (s : PV → Bool) (lk : lkI l S)
    (h : ∀ x ∈ l.1, Op (tg x ρ) fun ρ1 => W (el ρ1 S) (fun y S2 => y = .bl (s x) ∧ S2 = S) fun _ _ => False) (q : Q' (.bl (l.1.all s)) S) : W (compL tg bYes el ρ l l.1 [] S) (fun l S => Op (fAll l.1) fun u => Q' u S) E := by
  refine w_pureY (fun x => .bl (s x)) lk h ?_
  rw [show (l.1.map fun x => PV.bl (s x)) = (l.1.map s).map PV.bl from by rw [List.map_map]; rfl]
  refine o_all ?_
  rw [List.all_map]; exact q
theorem w_heads {tg : Tgt} {el : TV} {ρ : Env'} {S : Store} {l : LI} {Q' : LL → Store → Prop} {E : PX → Store → Prop} (f : PV → Str) (lk : lkI l S)
    (h : ∀ x ∈ l.1, Op (tg x ρ) fun ρ1 => W (el ρ1 S) (fun y S2 => y = .str (f x) ∧ S2 = S) fun _ _ => False) (q : Q' ((l.1.map f).map .str, none) S) : W (compL tg bYes el ρ l l.1 [] S) Q' E := by
  refine w_pureY (fun x => .str (f x)) lk h ?_
  rw [show (l.1.map fun x => PV.str (f x)) = (l.1.map f).map PV.str from by rw [List.map_map]; rfl]
  exact q
theorem L_deed_right_w {x : PV} (t : tyD S0 x) (q : Q (.bl (sDeed x)) S0) : W (fnV 1 2 bLDeedRight [x] S0) Q E := by
  refine w_fn rfl ?_
  show WS (bLDeedRight [some x, none] S0) _
  unfold bLDeedRight
  repeat walk_at "x"
  by_cases hx : ∃ z, x = .tup z
  · obtain ⟨z, rfl⟩ := hx
    refine rowT_w ?_
    rw [show (decide ((2 : Int) ≤ z.length) && decide ((z.length : Int) ≤ 2)) = decide (z.length = 2) from two_or 2]
    by_cases hl : z.length = 2
    · rw [decide_eq_true hl]
      obtain ⟨a, b, rfl⟩ := len2 hl
      repeat walk_at "x"
      refine L_is_name_w (t.elem (by simp)).ty ?_
      have tb : tyD S0 b := t.elem (by simp)
      cases h1 : nm a
      · repeat walk_at "x"
        have e : sDeed (.tup [a, b]) = false := by
          unfold sDeed
          split
          · rename_i heq; cases heq; rw [h1]; rfl
          · rfl
        rw [e] at q; exact q
      repeat walk_at "x"
      by_cases hb : ∃ os, b = .tup os
      · obtain ⟨os, rfl⟩ := hb
        have e : sDeed (.tup [a, .tup os]) = (nm a && ((decide (1 ≤ os.length) && decide (os.length ≤ 6)) && (os.all sOut && decide (os.map hdN).Nodup))) := rfl
        rw [e, h1, Bool.true_and] at q
        refine rowT_w ?_
        rw [show (decide ((1 : Int) ≤ os.length) && decide ((os.length : Int) ≤ 6)) = (decide (1 ≤ os.length) && decide (os.length ≤ 6)) from in_or 1 6]
        cases h2 : (decide (1 ≤ os.length) && decide (os.length ≤ 6))
        · rw [h2] at q
          repeat walk_at "x"
          exact q
        rw [h2, Bool.true_and] at q
        repeat walk_at "x"
        walk_at "e"
        refine w_all sOut trivial (fun x hx => ?_) ?_
        · repeat walk_at "x"
          exact L_out_right_w (tb.elem hx) ⟨rfl, rfl⟩
        dsimp only
        cases h3 : os.all sOut
        · rw [h3] at q
          repeat walk_at "x"
          exact q
        rw [h3, Bool.true_and] at q
        repeat walk_at "x"
        walk_at "e"
        refine w_heads hdN trivial (fun x hx => ?_) ?_
        · obtain ⟨u, b, c, rfl⟩ := sOut_tup (List.all_eq_true.mp h3 x hx)
          repeat walk_at "x"
          exact ⟨rfl, rfl⟩
        repeat walk_at "x"
        refine twice_w (get_app _ _ _) ?_
        repeat walk_at "x"
        rw [Bool.not_not]
        exact q
      · refine rowN_w tb.ty (fun z h => hb ⟨z, h⟩) ?_
        repeat walk_at "x"
        rw [sDeed_two fun z h => hb ⟨z, h⟩] at q; exact q
    · rw [decide_eq_false hl]
      repeat walk_at "x"
      rw [sDeed_len hl] at q; exact q
  · refine rowN_w t.ty (fun z h => hx ⟨z, h⟩) ?_
    repeat walk_at "x"
    rw [sDeed_not fun z h => hx ⟨z, h⟩] at q; exact q
theorem L_state_right_w {x : PV} (t : tyD S0 x) (q : Q (.bl (sState x)) S0) : W (fnV 1 2 bLStateRight [x] S0) Q E := by
  refine w_fn rfl ?_
  show WS (bLStateRight [some x, none] S0) _
  unfold bLStateRight
  repeat walk_at "x"
  by_cases hx : ∃ z, x = .tup z
  · obtain ⟨z, rfl⟩ := hx
    refine rowT_w ?_
    rw [show (decide ((3 : Int) ≤ z.length) && decide ((z.length : Int) ≤ 3)) = decide (z.length = 3) from two_or 3]
    by_cases hl : z.length = 3
    · rw [decide_eq_true hl]
      obtain ⟨a, b, c, rfl⟩ := len3 hl
      have tb : tyD S0 b := t.elem (by simp)
      have tc : tyD S0 c := t.elem (by simp)
      have e : sState (.tup [a, b, c]) = (nm a && (isBlB b && sDeeds c)) := rfl
      rw [e] at q
      repeat walk_at "x"
      refine L_is_name_w (t.elem (by simp)).ty ?_
      cases h1 : nm a
      · rw [h1] at q
        repeat walk_at "x"
        exact q
      rw [h1, Bool.true_and] at q
      repeat walk_at "x"
      obtain ⟨tyb, htb⟩ := tb.ty
      refine Op.of htb ?_
      rw [ty_bool htb]
      cases h2 : isBlB b
      · rw [h2] at q
        repeat walk_at "x"
        exact q
      rw [h2, Bool.true_and] at q
      repeat walk_at "x"
      by_cases hb : ∃ os, c = .tup os
      · obtain ⟨os, rfl⟩ := hb
        have e : sDeeds (.tup os) = (decide (os.length ≤ 8) && (os.all sDeed && decide (os.map hdN).Nodup)) := rfl
        rw [e] at q
        refine rowT_w ?_
        rw [show (decide ((0 : Int) ≤ os.length) && decide ((os.length : Int) ≤ 8)) = decide (os.length ≤ 8) from by have := in_or (z := os) 0 8; simpa using this]
        cases h2 : decide (os.length ≤ 8)
        · rw [h2] at q
          repeat walk_at "x"
          exact q
        rw [h2, Bool.true_and] at q
        repeat walk_at "x"
        walk_at "e"
        refine w_all sDeed trivial (fun x hx => ?_) ?_
        · repeat walk_at "x"
          exact L_deed_right_w (tc.elem hx) ⟨rfl, rfl⟩
        dsimp only
        cases h3 : os.all sDeed
        · rw [h3] at q
          repeat walk_at "x"
          exact q
        rw [h3, Bool.true_and] at q
        repeat walk_at "x"
        walk_at "e"
        refine w_heads hdN trivial (fun x hx => ?_) ?_
        · obtain ⟨u, b, rfl⟩ := sDeed_tup (List.all_eq_true.mp h3 x hx)
          repeat walk_at "x"
          exact ⟨rfl, rfl⟩
        repeat walk_at "x"
        refine twice_w (get_app _ _ _) ?_
        repeat walk_at "x"
        rw [Bool.not_not]
        exact q
      · refine rowN_w tc.ty (fun z h => hb ⟨z, h⟩) ?_
        repeat walk_at "x"
        rw [sDeeds_not fun z h => hb ⟨z, h⟩] at q; exact q
    · rw [decide_eq_false hl]
      repeat walk_at "x"
      rw [sState_len hl] at q; exact q
  · refine rowN_w t.ty (fun z h => hx ⟨z, h⟩) ?_
    repeat walk_at "x"
    rw [sState_not fun z h => hx ⟨z, h⟩] at q; exact q
end
end Ev

/-! Fw43: what a kind is, by the law's own look. -/
namespace Ev
open PySem PySem.Spec PyProof.Rows L2 SX
local macro_rules | `(tactic| walk_at "w") => `(tactic| first
  | (with_reducible apply s_set; focus (repeat first | exact SetR.zero | apply SetR.succ))
  | (with_reducible apply w_get; focus (repeat first | exact GetR.zero | apply GetR.succ))
  | with_reducible first
  | refine s_seqN ?_ | refine s_seq ?_ | refine q_nx ?_ | refine q_ret ?_ | refine q_brk ?_ | refine q_cnt ?_ | refine q_exc ?_
  | refine s_nil ?_ | refine s_pass ?_ | refine s_brk ?_ | refine s_cnt ?_ | refine s_expr ?_ | refine s_ret ?_ | refine s_retN ?_ | refine s_if ?_ | refine s_unp ?_ | refine s_sub ?_ | refine s_for ?_
  | refine w_c ?_ | (refine w_str ?_ ?_; decide +kernel) | refine w_bin ?_ | refine w_un ?_ | refine w_chn ?_ | refine w_bV ?_ | refine w_bBl ?_ | refine w_bAnd ?_ | refine w_bOr ?_ | refine w_bNot ?_ | refine w_bYes ?_
  | refine w_vAnd ?_ | refine w_vOr ?_ | refine w_vNot ?_ | refine w_vIf ?_ | refine w_nil ?_ | refine w_cons ?_ | refine w_tup ?_ | refine w_disp ?_ | refine w_new ?_ | refine lnew ?_ | refine w_oNone ?_ | refine w_oSome ?_ | refine w_slc ?_ | refine w_lslc ?_ | refine slcT ?_ | refine slcS ?_
  | refine w_call ?_ | refine w_callL ?_ | refine w_lcallL ?_ | refine w_lcallN ?_ | refine w_isi ?_ | refine w_app ?_ | refine w_app0 ?_ | refine w_lval ?_ | refine w_cat ?_ | refine w_eqL ?_ | refine w_lm ?_ | refine w_ext ?_ | refine w_sm ?_ | refine w_sm0 ?_ | refine w_lsm ?_ | refine w_smL ?_ | refine w_dic0 ?_ | refine w_dic1 ?_ | refine w_iV ?_ | refine w_iL ?_ | refine il_none ?_ | refine il_some ?_ | refine w_rng ?_ | refine w_comp ?_ | refine w_rev ?_ | refine w_lenSet ?_ | refine w_extV ?_
  | refine o_addI ?_ | refine o_iadd ?_ | refine o_sub ?_ | refine o_neg ?_ | refine o_ltI ?_ | refine o_le ?_ | refine o_gt ?_ | refine o_ge ?_ | refine o_is ?_ | refine o_isNot ?_ | refine o_lenT ?_ | refine o_lenF ?_ | refine o_lenS ?_ | refine o_intB ?_ | refine o_intI ?_ | refine o_max ?_ | refine o_min ?_ | refine o_tupT ?_ | refine o_eqI ?_ | refine o_eqS ?_ | refine o_eqB ?_
  | refine b_is ?_ | refine i_is ?_ | refine s_is ?_ | refine i_tup ?_ | refine i_str ?_ | refine tr_bl ?_ | refine ty_bl ?_ | refine ty_str ?_ | refine ty_tup ?_ | refine ty_int ?_ | refine k_s ?_ | refine k_i ?_
  | refine Br.tt ?_ | refine Br.ff ?_ | refine Br.nf ?_ | refine Br.nt ?_ | refine f_ret ?_ | refine f_nx ?_ | refine f_body ?_)
local macro_rules | `(tactic| walk_at "sget") => `(tactic| first
  | assumption | exact get_app _ _ _ | exact trivial
  | (refine get_set ?_; walk_at "sget") | (refine get_app_lt ?_; walk_at "sget"))
local macro_rules | `(tactic| walk_at "len") => `(tactic| first
  | exact Nat.zero_le _ | exact len_le rfl
  | (have hbig := sizeLine_eq; simp only [List.length_map, List.length_cons, List.length_nil, List.length_append, List.length_take, List.length_drop, List.length_reverse, List.length_set, List.length_range]; omega))
local macro_rules | `(tactic| walk_at "off") => `(tactic| focus rfl)
local macro_rules | `(tactic| walk_at "e") => `(tactic| simp only [wipeE, reset, List.foldl_cons, List.foldl_nil, List.set_cons_succ, List.set_cons_zero])
local macro_rules | `(tactic| walk_at "kp") => `(tactic| first | assumption | exact Kp.refl _ | exact Kp.app _ _ | (refine Kp.trans ?_ (Kp.app _ _); walk_at "kp"))
local macro_rules | `(tactic| walk_at "set") => `(tactic| first | exact setR0 | exact setR1 | exact setR2 | exact setR3 | exact setR4 | exact setR5 | exact setR6 | exact setR7 | exact setR8 | exact setR9 | exact setR10 | exact setR11 | exact setR12 | (repeat first | exact SetR.zero | apply SetR.succ))
local macro_rules | `(tactic| walk_at "f") => `(tactic| fail)
local macro_rules | `(tactic| walk_at "x") => `(tactic| first
  | ((with_reducible show W _ _ _); first
    | ((with_reducible apply w_var); (focus exact rfl))
    | with_reducible first | refine w_c ?_ | refine w_cons ?_ | refine w_nil ?_ | refine w_bin ?_ | refine w_app ?_ | refine w_call ?_ | refine w_tup ?_ | refine w_bBl ?_ | refine w_new ?_ | refine w_iV ?_ | refine w_comp ?_ | refine w_iL ?_ | refine w_bV ?_ | refine w_disp ?_ | refine w_vAnd ?_ | refine w_vOr ?_ | refine w_bAnd ?_ | refine w_bOr ?_ | refine w_bNot ?_ | refine w_bYes ?_ | refine w_isi ?_ | refine w_callL ?_ | refine w_lval ?_ | refine w_lm ?_ | refine w_chn ?_ | refine w_un ?_ | refine w_oNone ?_ | refine w_oSome ?_ | refine w_slc ?_ | refine w_lslc ?_ | refine w_rng ?_ | refine w_vNot ?_ | refine w_vIf ?_ | refine w_cat ?_ | refine w_eqL ?_ | refine w_lenSet ?_ | refine w_app0 ?_ | refine w_extV ?_ | refine w_ext ?_ | refine w_lcallL ?_ | refine w_lcallN ?_ | refine w_sm ?_ | refine w_sm0 ?_ | refine w_lsm ?_ | refine w_smL ?_ | refine w_dic0 ?_ | refine w_dic1 ?_ | refine w_rev ?_ | refine f_ret ?_ | refine f_nx ?_
    | ((with_reducible refine g_keep ?_ ?_ ?_); (focus walk_at "kp"); (focus rfl))
    | (with_reducible refine w_str ?_ ?_; decide +kernel)
    | walk_at "f"
    | with_reducible refine f_body ?_)
  | ((with_reducible show WS _ _); first
    | with_reducible first | refine s_seqN ?_ | refine s_seq ?_ | refine q_nx ?_
    | ((with_reducible apply s_set); (focus walk_at "set"))
    | with_reducible first | refine s_expr ?_ | refine s_ret ?_ | refine s_if ?_ | refine s_nil ?_ | refine q_ret ?_ | refine s_unp ?_ | refine s_sub ?_ | refine s_for ?_ | refine q_cnt ?_ | refine q_brk ?_ | refine q_exc ?_ | refine s_retN ?_ | refine s_cnt ?_ | refine s_brk ?_ | refine s_pass ?_)
  | ((with_reducible show Op _ _); first
    | ((with_reducible apply t_n); (focus walk_at "set"))
    | with_reducible first
      | refine t_cons ?_ | refine t_nil ?_ | refine t_tup ?_ | refine i_tup ?_
      | refine o_lenT ?_
      | refine o_eqS ?_ | refine o_eqI ?_ | refine o_eqB ?_ | refine o_neI ?_ | refine o_neS ?_ | refine o_neB ?_ | refine o_is ?_ | refine o_isNot ?_ | refine o_isT ?_ | refine o_isNT ?_ | refine o_isF ?_ | refine o_isNF ?_
      | refine o_addI ?_ | refine o_sub ?_ | refine o_neg ?_ | refine o_ltI ?_ | refine o_le ?_ | refine o_gt ?_ | refine o_ge ?_ | refine o_iadd ?_
      | refine tr_bl ?_ | refine ty_bl ?_ | refine ty_str ?_ | refine ty_tup ?_ | refine ty_int ?_ | refine o_tupT ?_
      | refine o_lenF ?_ | refine o_lenS ?_ | refine o_intB ?_ | refine o_intI ?_ | refine o_max ?_ | refine o_min ?_ | refine i_str ?_ | refine k_s ?_ | refine k_i ?_
    | ((with_reducible apply o_idxT); (focus first | exact at0 _ _ | exact at1 _ _ _ | exact at2 _ _ _ _ | exact at3 _ _ _ _ _))
    | ((with_reducible apply i_ref); (focus walk_at "sget"))
    | ((with_reducible apply o_getL); (focus walk_at "sget"))
    | ((with_reducible apply o_lenR); (focus walk_at "sget"))
    | ((with_reducible apply o_idxR); (focus walk_at "sget"); (focus first | exact at0 _ _ | exact at1 _ _ _ | exact at2 _ _ _ _))
    | ((with_reducible apply o_tupR); (focus walk_at "sget"))
    | ((with_reducible apply o_listR); (focus walk_at "sget"))
    | ((with_reducible refine o_mod ?_ ?_); (focus omega))
    | ((with_reducible refine o_div ?_ ?_); (focus omega))
    | ((with_reducible refine o_pow ?_ ?_); (focus decide))
    | ((with_reducible refine o_app ?_ ?_); (focus walk_at "len"))
    | walk_at "f")
  | with_reducible first | refine b_is ?_ | refine i_is ?_ | refine s_is ?_ | refine Br.tt ?_ | refine Br.ff ?_ | refine Br.nf ?_ | refine Br.nt ?_ | refine lnew ?_ | refine il_none ?_ | refine il_some ?_ | refine revT ?_ | refine slcT ?_ | refine slcS ?_
  | ((with_reducible refine Br.of_tt ?_ ?_); focus (first | assumption | rfl | exact beq_self_eq_true _ | (simp only [decide_eq_true_eq]; omega)))
  | ((with_reducible refine Br.of_ff ?_ ?_); focus (first | assumption | rfl | (rw [beq_self_eq_true]; rfl) | (simp only [decide_eq_false_iff_not]; omega)))
  | ((with_reducible refine And.intro ?_ ?_); (focus first | ((with_reducible show _ ≤ sizeLine); walk_at "len") | ((with_reducible show lkOk _ _); walk_at "sget")))
  | ((with_reducible refine seek_nx ?_ ?_); (focus rfl); walk_at "off") | ((with_reducible refine seek_cnt ?_ ?_); (focus rfl); walk_at "off") | ((with_reducible refine seek_ret ?_); focus rfl))
local macro_rules | `(tactic| walk_at "b") => `(tactic| with_reducible first | refine b_is ?_ | refine Br.tt ?_ | refine Br.ff ?_ | refine Br.nf ?_ | refine Br.nt ?_ | refine tr_bl ?_)
local macro_rules | `(tactic| walk_at "y") => `(tactic| (fail_if_success (with_reducible refine s_if ?_)); walk_at "x")
local macro_rules | `(tactic| walk_at "f") => `(tactic| with_reducible first | refine w_iEn ?_ | refine w_iZp ?_ | refine zs_two ?_ | refine en_tup ?_ | refine en_frl ?_ | refine z_tup ?_ | refine i_frl ?_ | refine w_revT ?_)
noncomputable def bLIsKind : TSt :=   (sSeq (sIf (bOr (bNot (bV (vApp (fnV 3 3 bLRowOf) (vsCons (vVar 0) (vsCons (vC (.int 2)) (vsCons (vC (.int 2)) vsNil)))))) (bOr (bNot (bV (vApp (fnV 1 2 bLIsName) (vsCons (vBin oIdx (vVar 0) (vC (.int 0))) vsNil)))) (bNot (bV (vApp (fnV 3 3 bLRowOf) (vsCons (vBin oIdx (vVar 0) (vC (.int 1))) (vsCons (vC (.int 1)) (vsCons (vC (.int 8)) vsNil)))))))) (sSeq (sRet (vC (.bl false))) sNil) sNil) (sSeq (sIf (bNot (bV (vCallL fAll (lComp (tgN 2) (iV (vBin oIdx (vVar 0) (vC (.int 1)))) bYes (vApp (fnV 1 2 bLStateRight) (vsCons (vVar 2) vsNil)) [2])))) (sSeq (sRet (vC (.bl false))) sNil) sNil) (sSeq (sSet 1 (vNew (lComp (tgN 2) (iV (vBin oIdx (vVar 0) (vC (.int 1)))) bYes (vBin oIdx (vVar 2) (vC (.int 0))) [2]))) (sSeq (sFor (tgT (tgCons (tgN 2) (tgCons (tgN 3) (tgCons (tgN 4) tgNil)))) (iV (vBin oIdx (vVar 0) (vC (.int 1)))) (sSeq (sFor (tgT (tgCons (tgN 5) (tgCons (tgN 6) tgNil))) (iV (vVar 4)) (sSeq (sIf (bBl (vEqL true (lComp (tgN 7) (iV (vVar 6)) (bAnd (bBl (vBin oIsNot (vBin oIdx (vVar 7) (vC (.int 1))) (vC .non))) (bBl (vBin oNotIn (vBin oIdx (vVar 7) (vC (.int 1))) (vVar 1)))) (vVar 7) [7]) (lDisp vsNil))) (sSeq (sRet (vC (.bl false))) sNil) sNil) sNil)) sNil)) (sSeq (sRet (vNot (vApp (fnV 1 3 bLTwice) (vsCons (vVar 1) vsNil)))) sNil)))))
section
variable {Q : PV → Store → Prop} {E : PX → Store → Prop} {S0 : Store}
theorem findSome_all {α : Type} (l : List α) (f : α → Bool) (v : PV) : (l.findSome? fun d => if f d = true then none else some v) = if l.all f = true then none else some v := by
  induction l with
  | nil => rfl
  | cons a l ih =>
    rw [List.findSome?_cons, List.all_cons]
    cases h : f a
    · simp
    · simp only [if_true, Bool.true_and]; exact ih
theorem flat_all {α β : Type} (l : List α) (g : α → List β) (p : β → Bool) : (l.flatMap g).all p = l.all fun x => (g x).all p := by
  induction l with
  | nil => rfl
  | cons a l ih => rw [List.flatMap_cons, List.all_append, List.all_cons, ih]
theorem sState_hd {x : PV} (h : sState x = true) : ∃ z b ds, x = .tup [.str z, b, .tup ds] ∧ ds.all sDeed = true := by
  obtain ⟨a, b, ds, rfl, _, hd⟩ := sState_form h
  have hp : nm a = true := by
    unfold sState at h
    simp only [Bool.and_eq_true] at h
    exact h.1
  obtain ⟨z, rfl⟩ := nm_str hp
  exact ⟨z, b, ds, rfl, hd⟩
theorem L_is_kind_w {x : PV} (t : tyD S0 x) (q : Q (.bl (sKind x)) S0) : W (fnV 1 8 bLIsKind [x] S0) Q E := by
  refine w_fn rfl ?_
  show WS (bLIsKind [some x, none, none, none, none, none, none, none] S0) _
  unfold bLIsKind
  repeat walk_at "x"
  by_cases hx : ∃ z, x = .tup z
  · obtain ⟨z, rfl⟩ := hx
    refine rowT_w ?_
    rw [show (decide ((2 : Int) ≤ z.length) && decide ((z.length : Int) ≤ 2)) = decide (z.length = 2) from two_or 2]
    by_cases hl : z.length = 2
    · rw [decide_eq_true hl]
      obtain ⟨a, b, rfl⟩ := len2 hl
      have tb : tyD S0 b := t.elem (by simp)
      repeat walk_at "x"
      refine L_is_name_w (t.elem (by simp)).ty ?_
      cases h1 : nm a
      · repeat walk_at "x"
        have e : sKind (.tup [a, b]) = false := by
          unfold sKind
          split
          · rename_i heq; cases heq; rw [h1]; rfl
          · rfl
        rw [e] at q; exact q
      repeat walk_at "x"
      by_cases hb : ∃ os, b = .tup os
      · obtain ⟨ss, rfl⟩ := hb
        have e : sKind (.tup [a, .tup ss]) = (nm a && ((decide (1 ≤ ss.length) && decide (ss.length ≤ 8)) && (ss.all sState && (decide (ss.map hdN).Nodup && (ss.flatMap outsOf2).all (thereOk (ss.map hdN)))))) := rfl
        rw [e, h1, Bool.true_and] at q
        refine rowT_w ?_
        rw [show (decide ((1 : Int) ≤ ss.length) && decide ((ss.length : Int) ≤ 8)) = (decide (1 ≤ ss.length) && decide (ss.length ≤ 8)) from in_or 1 8]
        cases h2 : (decide (1 ≤ ss.length) && decide (ss.length ≤ 8))
        · rw [h2] at q
          repeat walk_at "x"
          exact q
        rw [h2, Bool.true_and] at q
        repeat walk_at "x"
        walk_at "e"
        refine w_all sState trivial (fun x hx => ?_) ?_
        · repeat walk_at "x"
          exact L_state_right_w (tb.elem hx) ⟨rfl, rfl⟩
        dsimp only
        cases h3 : ss.all sState
        · rw [h3] at q
          repeat walk_at "x"
          exact q
        rw [h3, Bool.true_and] at q
        repeat walk_at "x"
        walk_at "e"
        refine w_heads hdN trivial (fun x hx => ?_) ?_
        · obtain ⟨u, b, ds, rfl, _⟩ := sState_hd (List.all_eq_true.mp h3 x hx)
          repeat walk_at "x"
          exact ⟨rfl, rfl⟩
        dsimp only
        generalize hns : ss.map hdN = ns at *
        repeat walk_at "x"
        refine s_find _root_.id ss [2, 3, 4, 5, 6] (fun s => if (outsOf2 s).all (thereOk ns) = true then none else some (.bl false)) (List.map_id _).symm trivial (fun s hs g => ?_) (fun v hv => ?_) (fun hv g => ?_)
        · obtain ⟨u, b, ds, rfl, hds⟩ := sState_hd (List.all_eq_true.mp h3 s hs)
          walk_at "e"
          unfold _root_.id
          repeat walk_at "x"
          have es : outsOf2 (.tup [.str u, b, .tup ds]) = ds.flatMap outsOf1 := rfl
          rw [es, flat_all]
          refine s_find _root_.id ds [5, 6] (fun d => if (outsOf1 d).all (thereOk ns) = true then none else some (.bl false)) (List.map_id _).symm trivial (fun d hd g => ?_) (fun v hv => ?_) (fun hv g => ?_)
          · obtain ⟨u2, b2, rfl⟩ := sDeed_tup (List.all_eq_true.mp hds d hd)
            obtain ⟨a3, os, e3, _⟩ := sDeed_form (List.all_eq_true.mp hds _ hd)
            cases e3
            have ho : os.all sOut = true := by
              have := List.all_eq_true.mp hds _ hd
              unfold sDeed at this
              simp only [Bool.and_eq_true] at this
              exact this.2.2.1
            walk_at "e"
            unfold _root_.id
            repeat walk_at "x"
            walk_at "e"
            refine w_pure (fun o => !thereOk ns o) (fun o => o) trivial (fun o hm => ?_) ?_
            · obtain ⟨w, b4, c4, rfl, hb4, _⟩ := sOut_form (List.all_eq_true.mp ho o hm)
              repeat walk_at "x"
              rcases hb4 with rfl | ⟨y, rfl⟩
              · refine Br.of_ff rfl ?_
                exact ⟨⟨rfl, rfl⟩, fun h => by cases h⟩
              · refine Br.of_tt rfl ?_
                repeat walk_at "x"
                refine o_notIn (in_strs (get_app _ _ _) _) ?_
                exact ⟨⟨rfl, rfl⟩, fun _ => by repeat walk_at "x"; exact ⟨rfl, rfl⟩⟩
            · repeat walk_at "x"
              refine Op.of (eq_empty _) ?_
              have e : ((os.filter fun o => !thereOk ns o).map fun o => o).isEmpty = os.all (thereOk ns) := by
                rw [Bool.eq_iff_iff, List.isEmpty_iff, List.map_eq_nil_iff, List.filter_eq_nil_iff, List.all_eq_true]
                simp only [Bool.not_eq_true', Bool.not_eq_false]
              rw [e]
              have e2 : outsOf1 (.tup [.str u2, .tup os]) = os := rfl
              rw [e2]
              cases h : os.all (thereOk ns)
              · repeat walk_at "x"
              · repeat walk_at "x"
          · rw [findSome_all] at hv
            split at hv
            · cases hv
            · rename_i h
              cases hv
              rw [if_neg h]
              exact seek_ret rfl
          · rw [findSome_all] at hv
            split at hv
            · rename_i h
              walk_at "e"
              exact seek_nx (if_pos h) rfl
            · cases hv
        · rw [findSome_all] at hv
          split at hv
          · cases hv
          · rename_i h
            cases hv
            rw [flat_all, Bool.eq_false_iff.mpr h, Bool.and_false] at q
            repeat walk_at "x"
            exact q
        · rw [findSome_all] at hv
          split at hv
          · rename_i h
            rw [flat_all, h, Bool.and_true] at q
            walk_at "e"
            repeat walk_at "x"
            refine twice_w (get_app _ _ _) ?_
            repeat walk_at "x"
            rw [Bool.not_not]
            exact q
          · cases hv
      · refine rowN_w tb.ty (fun z h => hb ⟨z, h⟩) ?_
        repeat walk_at "x"
        rw [sKind_two fun z h => hb ⟨z, h⟩] at q; exact q
    · rw [decide_eq_false hl]
      repeat walk_at "x"
      rw [sKind_len hl] at q; exact q
  · refine rowN_w t.ty (fun z h => hx ⟨z, h⟩) ?_
    repeat walk_at "x"
    rw [sKind_not fun z h => hx ⟨z, h⟩] at q; exact q
end
end Ev

/-! Fw44 -/
namespace Ev
open PySem PySem.Spec PyProof.Rows L2 SX
local macro_rules | `(tactic| walk_at "w") => `(tactic| first
  | (with_reducible apply s_set; focus (repeat first | exact SetR.zero | apply SetR.succ))
  | (with_reducible apply w_get; focus (repeat first | exact GetR.zero | apply GetR.succ))
  | with_reducible first
  | refine s_seqN ?_ | refine s_seq ?_ | refine q_nx ?_ | refine q_ret ?_ | refine q_brk ?_ | refine q_cnt ?_ | refine q_exc ?_
  | refine s_nil ?_ | refine s_pass ?_ | refine s_brk ?_ | refine s_cnt ?_ | refine s_expr ?_ | refine s_ret ?_ | refine s_retN ?_ | refine s_if ?_ | refine s_unp ?_ | refine s_sub ?_ | refine s_for ?_
  | refine w_c ?_ | (refine w_str ?_ ?_; decide +kernel) | refine w_bin ?_ | refine w_un ?_ | refine w_chn ?_ | refine w_bV ?_ | refine w_bBl ?_ | refine w_bAnd ?_ | refine w_bOr ?_ | refine w_bNot ?_ | refine w_bYes ?_
  | refine w_vAnd ?_ | refine w_vOr ?_ | refine w_vNot ?_ | refine w_vIf ?_ | refine w_nil ?_ | refine w_cons ?_ | refine w_tup ?_ | refine w_disp ?_ | refine w_new ?_ | refine lnew ?_ | refine w_oNone ?_ | refine w_oSome ?_ | refine w_slc ?_ | refine w_lslc ?_ | refine slcT ?_ | refine slcS ?_
  | refine w_call ?_ | refine w_callL ?_ | refine w_lcallL ?_ | refine w_lcallN ?_ | refine w_isi ?_ | refine w_app ?_ | refine w_app0 ?_ | refine w_lval ?_ | refine w_cat ?_ | refine w_eqL ?_ | refine w_lm ?_ | refine w_ext ?_ | refine w_sm ?_ | refine w_sm0 ?_ | refine w_lsm ?_ | refine w_smL ?_ | refine w_dic0 ?_ | refine w_dic1 ?_ | refine w_iV ?_ | refine w_iL ?_ | refine il_none ?_ | refine il_some ?_ | refine w_rng ?_ | refine w_comp ?_ | refine w_rev ?_ | refine w_lenSet ?_ | refine w_extV ?_
  | refine o_addI ?_ | refine o_iadd ?_ | refine o_sub ?_ | refine o_neg ?_ | refine o_ltI ?_ | refine o_le ?_ | refine o_gt ?_ | refine o_ge ?_ | refine o_is ?_ | refine o_isNot ?_ | refine o_lenT ?_ | refine o_lenF ?_ | refine o_lenS ?_ | refine o_intB ?_ | refine o_intI ?_ | refine o_max ?_ | refine o_min ?_ | refine o_tupT ?_ | refine o_eqI ?_ | refine o_eqS ?_ | refine o_eqB ?_
  | refine b_is ?_ | refine i_is ?_ | refine s_is ?_ | refine i_tup ?_ | refine i_str ?_ | refine tr_bl ?_ | refine ty_bl ?_ | refine ty_str ?_ | refine ty_tup ?_ | refine ty_int ?_ | refine k_s ?_ | refine k_i ?_
  | refine Br.tt ?_ | refine Br.ff ?_ | refine Br.nf ?_ | refine Br.nt ?_ | refine f_ret ?_ | refine f_nx ?_ | refine f_body ?_)
local macro_rules | `(tactic| walk_at "sget") => `(tactic| first
  | assumption | exact get_app _ _ _ | exact trivial
  | (refine get_set ?_; walk_at "sget") | (refine get_app_lt ?_; walk_at "sget"))
local macro_rules | `(tactic| walk_at "len") => `(tactic| first
  | exact Nat.zero_le _ | exact len_le rfl
  | (have hbig := sizeLine_eq; simp only [List.length_map, List.length_cons, List.length_nil, List.length_append, List.length_take, List.length_drop, List.length_reverse, List.length_set, List.length_range]; omega))
local macro_rules | `(tactic| walk_at "off") => `(tactic| focus rfl)
local macro_rules | `(tactic| walk_at "e") => `(tactic| simp only [wipeE, reset, List.foldl_cons, List.foldl_nil, List.set_cons_succ, List.set_cons_zero])
local macro_rules | `(tactic| walk_at "kp") => `(tactic| first | assumption | exact Kp.refl _ | exact Kp.app _ _ | (refine Kp.trans ?_ (Kp.app _ _); walk_at "kp"))
local macro_rules | `(tactic| walk_at "set") => `(tactic| first | exact setR0 | exact setR1 | exact setR2 | exact setR3 | exact setR4 | exact setR5 | exact setR6 | exact setR7 | exact setR8 | exact setR9 | exact setR10 | exact setR11 | exact setR12 | (repeat first | exact SetR.zero | apply SetR.succ))
local macro_rules | `(tactic| walk_at "f") => `(tactic| fail)
local macro_rules | `(tactic| walk_at "x") => `(tactic| first
  | ((with_reducible show W _ _ _); first
    | ((with_reducible apply w_var); (focus exact rfl))
    | with_reducible first | refine w_c ?_ | refine w_cons ?_ | refine w_nil ?_ | refine w_bin ?_ | refine w_app ?_ | refine w_call ?_ | refine w_tup ?_ | refine w_bBl ?_ | refine w_new ?_ | refine w_iV ?_ | refine w_comp ?_ | refine w_iL ?_ | refine w_bV ?_ | refine w_disp ?_ | refine w_vAnd ?_ | refine w_vOr ?_ | refine w_bAnd ?_ | refine w_bOr ?_ | refine w_bNot ?_ | refine w_bYes ?_ | refine w_isi ?_ | refine w_callL ?_ | refine w_lval ?_ | refine w_lm ?_ | refine w_chn ?_ | refine w_un ?_ | refine w_oNone ?_ | refine w_oSome ?_ | refine w_slc ?_ | refine w_lslc ?_ | refine w_rng ?_ | refine w_vNot ?_ | refine w_vIf ?_ | refine w_cat ?_ | refine w_eqL ?_ | refine w_lenSet ?_ | refine w_app0 ?_ | refine w_extV ?_ | refine w_ext ?_ | refine w_lcallL ?_ | refine w_lcallN ?_ | refine w_sm ?_ | refine w_sm0 ?_ | refine w_lsm ?_ | refine w_smL ?_ | refine w_dic0 ?_ | refine w_dic1 ?_ | refine w_rev ?_ | refine f_ret ?_ | refine f_nx ?_
    | ((with_reducible refine g_keep ?_ ?_ ?_); (focus walk_at "kp"); (focus rfl))
    | (with_reducible refine w_str ?_ ?_; decide +kernel)
    | walk_at "f"
    | with_reducible refine f_body ?_)
  | ((with_reducible show WS _ _); first
    | with_reducible first | refine s_seqN ?_ | refine s_seq ?_ | refine q_nx ?_
    | ((with_reducible apply s_set); (focus walk_at "set"))
    | with_reducible first | refine s_expr ?_ | refine s_ret ?_ | refine s_if ?_ | refine s_nil ?_ | refine q_ret ?_ | refine s_unp ?_ | refine s_sub ?_ | refine s_for ?_ | refine q_cnt ?_ | refine q_brk ?_ | refine q_exc ?_ | refine s_retN ?_ | refine s_cnt ?_ | refine s_brk ?_ | refine s_pass ?_)
  | ((with_reducible show Op _ _); first
    | ((with_reducible apply t_n); (focus walk_at "set"))
    | with_reducible first
      | refine t_cons ?_ | refine t_nil ?_ | refine t_tup ?_ | refine i_tup ?_
      | refine o_lenT ?_
      | refine o_eqS ?_ | refine o_eqI ?_ | refine o_eqB ?_ | refine o_neI ?_ | refine o_neS ?_ | refine o_neB ?_ | refine o_is ?_ | refine o_isNot ?_ | refine o_isT ?_ | refine o_isNT ?_ | refine o_isF ?_ | refine o_isNF ?_
      | refine o_addI ?_ | refine o_sub ?_ | refine o_neg ?_ | refine o_ltI ?_ | refine o_le ?_ | refine o_gt ?_ | refine o_ge ?_ | refine o_iadd ?_
      | refine tr_bl ?_ | refine ty_bl ?_ | refine ty_str ?_ | refine ty_tup ?_ | refine ty_int ?_ | refine o_tupT ?_
      | refine o_lenF ?_ | refine o_lenS ?_ | refine o_intB ?_ | refine o_intI ?_ | refine o_max ?_ | refine o_min ?_ | refine i_str ?_ | refine k_s ?_ | refine k_i ?_
    | ((with_reducible apply o_idxT); (focus first | exact at0 _ _ | exact at1 _ _ _ | exact at2 _ _ _ _ | exact at3 _ _ _ _ _))
    | ((with_reducible apply i_ref); (focus walk_at "sget"))
    | ((with_reducible apply o_getL); (focus walk_at "sget"))
    | ((with_reducible apply o_lenR); (focus walk_at "sget"))
    | ((with_reducible apply o_idxR); (focus walk_at "sget"); (focus first | exact at0 _ _ | exact at1 _ _ _ | exact at2 _ _ _ _))
    | ((with_reducible apply o_tupR); (focus walk_at "sget"))
    | ((with_reducible apply o_listR); (focus walk_at "sget"))
    | ((with_reducible refine o_mod ?_ ?_); (focus omega))
    | ((with_reducible refine o_div ?_ ?_); (focus omega))
    | ((with_reducible refine o_pow ?_ ?_); (focus decide))
    | ((with_reducible refine o_app ?_ ?_); (focus walk_at "len"))
    | walk_at "f")
  | with_reducible first | refine b_is ?_ | refine i_is ?_ | refine s_is ?_ | refine Br.tt ?_ | refine Br.ff ?_ | refine Br.nf ?_ | refine Br.nt ?_ | refine lnew ?_ | refine il_none ?_ | refine il_some ?_ | refine revT ?_ | refine slcT ?_ | refine slcS ?_
  | ((with_reducible refine Br.of_tt ?_ ?_); focus (first | assumption | rfl | exact beq_self_eq_true _ | (simp only [decide_eq_true_eq]; omega)))
  | ((with_reducible refine Br.of_ff ?_ ?_); focus (first | assumption | rfl | (rw [beq_self_eq_true]; rfl) | (simp only [decide_eq_false_iff_not]; omega)))
  | ((with_reducible refine And.intro ?_ ?_); (focus first | ((with_reducible show _ ≤ sizeLine); walk_at "len") | ((with_reducible show lkOk _ _); walk_at "sget")))
  | ((with_reducible refine seek_nx ?_ ?_); (focus rfl); walk_at "off") | ((with_reducible refine seek_cnt ?_ ?_); (focus rfl); walk_at "off") | ((with_reducible refine seek_ret ?_); focus rfl))
local macro_rules | `(tactic| walk_at "b") => `(tactic| with_reducible first | refine b_is ?_ | refine Br.tt ?_ | refine Br.ff ?_ | refine Br.nf ?_ | refine Br.nt ?_ | refine tr_bl ?_)
local macro_rules | `(tactic| walk_at "y") => `(tactic| (fail_if_success (with_reducible refine s_if ?_)); walk_at "x")
local macro_rules | `(tactic| walk_at "f") => `(tactic| with_reducible first | refine w_iEn ?_ | refine w_iZp ?_ | refine zs_two ?_ | refine en_tup ?_ | refine en_frl ?_ | refine z_tup ?_ | refine i_frl ?_ | refine w_revT ?_)
noncomputable def bLOdd : TSt :=   (sSeq (sSet 2 (vBin oIdx (vVar 1) (vApp (fnV 2 4 bTake) (vsCons (vVar 0) (vsCons (vC (.int 12)) vsNil))))) (sSeq (sSet 3 (vNew (lDisp (vsCons (vC .non) (vsCons (vC (.bl true)) (vsCons (vC (.bl false)) (vsCons (vC (.int 0)) (vsCons (vC (.int 1)) (vsCons (vUn oNeg (vC (.int 1))) (vsCons (vBin oPow (vC (.int 10)) (vC (.int 30))) (vsCons (vStr "") (vsCons (vStr " ") (vsCons (vStr "make") (vsCons (vStr "gone") (vsCons (vStr "rest") (vsCons (vStr "main") vsNil)))))))))))))))) (sSeq (sSet 3 (vNew (lCat (lVal (vVar 3)) (lDisp (vsCons (vStr "Ab") (vsCons (vStr "a1") (vsCons (vStr "a b") (vsCons (vStr "{") (vsCons (vStr "nineletrs") (vsCons (vVar 2) (vsCons (vTup vsNil) (vsCons (vTup (vsCons (vVar 2) vsNil)) (vsCons (vNew (lDisp vsNil)) (vsCons (vNew (lDisp (vsCons (vVar 2) vsNil))) vsNil)))))))))))))) (sSeq (sSet 3 (vNew (lCat (lVal (vVar 3)) (lDisp (vsCons (vTup (vsCons (vVar 2) (vsCons (vC .non) vsNil))) (vsCons (vTup (vsCons (vVar 2) (vsCons (vC .non) (vsCons (vC .non) vsNil)))) (vsCons (vTup (vsCons (vVar 2) (vsCons (vC (.bl true)) (vsCons (vTup vsNil) vsNil)))) vsNil))))))) (sSeq (sSet 3 (vNew (lCat (lVal (vVar 3)) (lDisp (vsCons (vTup (vsCons (vVar 2) (vsCons (vTup (vsCons (vTup (vsCons (vVar 2) (vsCons (vC .non) (vsCons (vC .non) vsNil)))) vsNil)) vsNil))) (vsCons (vTup (vsCons (vVar 2) (vsCons (vTup (vsCons (vTup (vsCons (vVar 2) (vsCons (vC (.bl false)) (vsCons (vTup vsNil) vsNil)))) vsNil)) vsNil))) vsNil)))))) (sSeq (sSet 3 (vNew (lCat (lVal (vVar 3)) (lDisp (vsCons (vBin oAdd (vVar 2) (vStr " ")) (vsCons (vSm0 mUpper (vVar 2)) (vsCons vDic0 (vsCons (vDic1 (vVar 2) (vC (.int 1))) (vsCons (vDic1 (vC (.int 0)) (vTup vsNil)) (vsCons (vNew (lDisp (vsCons vDic0 vsNil))) (vsCons (vDic1 (vStr "kind") (vVar 2)) vsNil))))))))))) (sSeq (sRet (vBin oIdx (vVar 3) (vApp (fnV 2 4 bTake) (vsCons (vVar 0) (vsCons (vCall fLen (vsCons (vVar 3) vsNil)) vsNil))))) sNil)))))))
/-! ### a store of lists and dicts alone; how wide things are -/
def isLD : PObj → Bool
  | .ins _ _ => false
  | _ => true
def AllLD (S : Store) : Prop := ∀ o ∈ S, isLD o = true
theorem AllLD.app {S J : Store} (a : AllLD S) (b : ∀ o ∈ J, isLD o = true) : AllLD (S ++ J) := fun o h => (List.mem_append.mp h).elim (a o) (b o)
theorem AllLD.one {S : Store} {o : PObj} (a : AllLD S) (b : isLD o = true) : AllLD (S ++ [o]) := a.app fun u h => by rw [List.mem_singleton.mp h]; exact b
theorem AllLD.take {S : Store} (a : AllLD S) (n : Nat) : AllLD (S.take n) := fun o h => a o (List.mem_of_mem_take h)
theorem isWell.ld {o : PObj} (h : isWell o) : isLD o = true := by obtain ⟨a, b, c, rfl⟩ := h; rfl
theorem AllLD.fr {i : Nat} {S U : Store} (a : AllLD S) (F : Fr isWell i S U) (u : U.length = S.length) : AllLD U := fun o h => by
  obtain ⟨j, hj⟩ := List.mem_iff_getElem?.mp h
  by_cases e : j = i
  · subst e
    obtain ⟨o', h', w⟩ := F.own
    rw [hj] at h'; cases h'
    exact w.ld
  · have hl := lt_of_get hj
    rw [F.get j (by omega) e] at hj
    exact a o (List.mem_of_getElem? hj)
mutual
def wid : PV → Nat
  | .tup xs => max xs.length (wids xs)
  | _ => 0
def wids : List PV → Nat
  | [] => 0
  | x :: xs => max (wid x) (wids xs)
end
theorem wids_le {n : Nat} {xs : List PV} : wids xs ≤ n ↔ ∀ x ∈ xs, wid x ≤ n := by
  induction xs with
  | nil => simp [wids]
  | cons x xs ih => simp only [wids, Nat.max_le, ih, List.mem_cons, forall_eq_or_imp]
theorem wid_tup {n : Nat} {xs : List PV} : wid (.tup xs) ≤ n ↔ xs.length ≤ n ∧ ∀ x ∈ xs, wid x ≤ n := by
  rw [wid, Nat.max_le, wids_le]
mutual
theorem tyD_low {S : Store} (a : AllLD S) : ∀ x : PV, x.low S.length = true → tyD S x
  | .non, _ => trivial
  | .bl _, _ => trivial
  | .int _, _ => trivial
  | .str _, _ => trivial
  | .frl _, _ => trivial
  | .tup xs, h => tyDs_low a xs h
  | .ref j, h => by
    simp only [PV.low, decide_eq_true_eq] at h
    have := a S[j] (List.getElem_mem h)
    show ∃ t, tyN S (.ref j) = some t
    simp only [tyN, List.getElem?_eq_getElem h]
    cases e : S[j] with
    | lst _ => exact ⟨_, rfl⟩
    | dic _ => exact ⟨_, rfl⟩
    | ins _ _ => rw [e] at this; cases this
theorem tyDs_low {S : Store} (a : AllLD S) : ∀ xs : List PV, PV.lows S.length xs = true → tyDs S xs
  | [], _ => trivial
  | x :: xs, h => by
    rw [PV.lows, Bool.and_eq_true] at h
    exact ⟨tyD_low a x h.1, tyDs_low a xs h.2⟩
end
mutual
theorem low_le {m n : Nat} (h : m ≤ n) : ∀ x : PV, x.low m = true → x.low n = true
  | .non, _ => rfl
  | .bl _, _ => rfl
  | .int _, _ => rfl
  | .str _, _ => rfl
  | .frl xs, l => lows_le h xs l
  | .tup xs, l => lows_le h xs l
  | .ref j, l => by simp only [PV.low, decide_eq_true_eq] at *; omega
theorem lows_le {m n : Nat} (h : m ≤ n) : ∀ xs : List PV, PV.lows m xs = true → PV.lows n xs = true
  | [], _ => rfl
  | x :: xs, l => by
    rw [PV.lows, Bool.and_eq_true] at *
    exact ⟨low_le h x l.1, lows_le h xs l.2⟩
end
section
variable {Q : PV → Store → Prop} {E : PX → Store → Prop} {S0 : Store}
/-- whatever comes back -/
theorem ret_good {i : Nat} {v : PV} {T : Store} (hi : i < S0.length) (F : Fr isWell i S0 T) (a : AllLD T) (hl : v.low T.length = true) (q : ∀ (v' : PV) (U : Store), Fr isWell i S0 U → AllLD U → v'.low U.length = true → wid v' = wid v → Q v' U) : W (gcV S0 v T) Q E := by
  unfold gcV
  rw [if_pos (F.gc lowW)]
  by_cases hv : v.low S0.length = true
  · rw [if_pos hv]
    refine q v _ (F.cut hi) (a.take _) ?_ rfl
    rw [List.length_take, Nat.min_eq_left F.le]; exact hv
  · rw [if_neg hv]
    cases v with
    | ref j =>
      dsimp only
      cases h : T[j]? with
      | none => exact q _ _ F a hl rfl
      | some o =>
        dsimp only
        by_cases hc : S0.length ≤ j ∧ o.low S0.length = true
        · rw [if_pos hc]
          have hlen : (T.take S0.length).length = S0.length := by simp only [List.length_take]; have := F.le; omega
          refine q _ _ ((F.cut hi).trans ((Kp.app _ _).fr (F.cut hi).own)) ((a.take _).one (a o (List.mem_of_getElem? h))) ?_ rfl
          simp [PV.low, hlen]
        · rw [if_neg hc]; exact q _ _ F a hl rfl
    | _ => exact q _ _ F a hl rfl
theorem upper_good {z : Str} (h : good z) : z.length ≤ 5592405 ∧ SOk (Txt.upper z) := by
  have hl := h.2.1
  refine ⟨by omega, ?_, ?_⟩
  · have := PyProof.Rows.len_upper z
    have := sizeLine_eq
    omega
  · have up : ∀ k < 26, Unicode.upperOf (97 + k) = [65 + k] := by decide +kernel
    unfold PyData.strOk Txt.upper placed
    simp only [Array.all_eq_true', Array.mem_flatten]
    intro x hx
    obtain ⟨a, ha, hxa⟩ := hx
    obtain ⟨i, hi, e⟩ := Array.mem_mapIdx.mp ha
    have hc : z.cps[i] ∈ z.cps.toList := by simp
    have := h.2.2 _ hc
    obtain ⟨l1, l2⟩ := this
    have u := up (z.cps[i] - 97) (by omega)
    rw [show 97 + (z.cps[i] - 97) = z.cps[i] by omega] at u
    rw [← e, u] at hxa
    simp at hxa
    simp only [decide_eq_true_eq]
    omega
local macro_rules | `(tactic| walk_at "fr") => `(tactic| first | assumption | (refine Fr.kp ?_ (Kp.app _ _); walk_at "fr"))
local macro_rules | `(tactic| walk_at "ld") => `(tactic| first | assumption | (refine AllLD.one ?_ rfl; walk_at "ld"))
theorem odd_w {i j : Nat} {ws : List Str} (hw : HasW i S0) (hj : j ≠ i) (hn : S0[j]? = some (.lst (ws.map .str))) (hl : ws.length = 12) (hg : ∀ z ∈ ws, good z) (ld : AllLD S0)
    (q : ∀ (v : PV) (U : Store), Fr isWell i S0 U → AllLD U → v.low U.length = true → wid v ≤ 3 → Q v U) : W (fnV 2 4 bLOdd [.ref i, .ref j] S0) Q E := by
  refine w_fn rfl ?_
  show WS (bLOdd [some (.ref i), some (.ref j), none, none] S0) _
  unfold bLOdd
  have hi := hw.lt
  have big := sizeLine_eq
  repeat walk_at "x"
  refine take_w hw (by omega) fun r T F u r0 r1 => ?_
  have ldT := ld.fr F u
  obtain ⟨z, hz, hzm⟩ := atI_ex (xs := ws) (k := r) r0 (by omega)
  have gz := hg z hzm
  refine o_idxR (F.of hn hj) (y := .str z) (by rw [atI_map, hz]; rfl) ?_
  repeat walk_at "x"
  refine o_addS (by have := gz.2.1; rw [show ((" " : Str)).length = 1 from by decide +kernel]; omega) ?_
  repeat walk_at "x"
  refine Op.of (by unfold mUpper; rw [if_pos (upper_good gz)]) ?_
  repeat walk_at "x"
  refine take_w (i := i) ?_ ?_ fun r2 U F2 u2 r20 r21 => ?_
  · exact Fr.own (P := isWell) (S := S0) (by walk_at "fr")
  · simp only [List.length_append, List.length_cons, List.length_nil]; omega
  have ldX : AllLD U := AllLD.fr (by walk_at "ld") F2 u2
  obtain ⟨x, hx, hxm⟩ := atI_ex (k := r2) r20 r21
  refine o_idxR (F2.of (get_app _ _ _) (by simp only [List.length_append, List.length_cons, List.length_nil]; omega)) hx ?_
  refine f_ret ?_
  have key : (x.low U.length && decide (wid x ≤ 3)) = true := by
    refine (List.all_eq_true (p := fun x => x.low U.length && decide (wid x ≤ 3))).mp ?_ x hxm
    rw [u2]
    simp [PV.low, PV.lows, wid, wids]
  rw [Bool.and_eq_true, decide_eq_true_eq] at key
  exact ret_good hi (Fr.trans (by walk_at "fr") F2) ldX key.1 fun v' U' F' l' h' w' => q v' U' F' l' h' (by omega)
end
end Ev

/-! Fw45 -/
namespace Ev
open PySem PySem.Spec PyProof.Rows L2 SX
local macro_rules | `(tactic| walk_at "w") => `(tactic| first
  | (with_reducible apply s_set; focus (repeat first | exact SetR.zero | apply SetR.succ))
  | (with_reducible apply w_get; focus (repeat first | exact GetR.zero | apply GetR.succ))
  | with_reducible first
  | refine s_seqN ?_ | refine s_seq ?_ | refine q_nx ?_ | refine q_ret ?_ | refine q_brk ?_ | refine q_cnt ?_ | refine q_exc ?_
  | refine s_nil ?_ | refine s_pass ?_ | refine s_brk ?_ | refine s_cnt ?_ | refine s_expr ?_ | refine s_ret ?_ | refine s_retN ?_ | refine s_if ?_ | refine s_unp ?_ | refine s_sub ?_ | refine s_for ?_
  | refine w_c ?_ | (refine w_str ?_ ?_; decide +kernel) | refine w_bin ?_ | refine w_un ?_ | refine w_chn ?_ | refine w_bV ?_ | refine w_bBl ?_ | refine w_bAnd ?_ | refine w_bOr ?_ | refine w_bNot ?_ | refine w_bYes ?_
  | refine w_vAnd ?_ | refine w_vOr ?_ | refine w_vNot ?_ | refine w_vIf ?_ | refine w_nil ?_ | refine w_cons ?_ | refine w_tup ?_ | refine w_disp ?_ | refine w_new ?_ | refine lnew ?_ | refine w_oNone ?_ | refine w_oSome ?_ | refine w_slc ?_ | refine w_lslc ?_ | refine slcT ?_ | refine slcS ?_
  | refine w_call ?_ | refine w_callL ?_ | refine w_lcallL ?_ | refine w_lcallN ?_ | refine w_isi ?_ | refine w_app ?_ | refine w_app0 ?_ | refine w_lval ?_ | refine w_cat ?_ | refine w_eqL ?_ | refine w_lm ?_ | refine w_ext ?_ | refine w_sm ?_ | refine w_sm0 ?_ | refine w_lsm ?_ | refine w_smL ?_ | refine w_dic0 ?_ | refine w_dic1 ?_ | refine w_iV ?_ | refine w_iL ?_ | refine il_none ?_ | refine il_some ?_ | refine w_rng ?_ | refine w_comp ?_ | refine w_rev ?_ | refine w_lenSet ?_ | refine w_extV ?_
  | refine o_addI ?_ | refine o_iadd ?_ | refine o_sub ?_ | refine o_neg ?_ | refine o_ltI ?_ | refine o_le ?_ | refine o_gt ?_ | refine o_ge ?_ | refine o_is ?_ | refine o_isNot ?_ | refine o_lenT ?_ | refine o_lenF ?_ | refine o_lenS ?_ | refine o_intB ?_ | refine o_intI ?_ | refine o_max ?_ | refine o_min ?_ | refine o_tupT ?_ | refine o_eqI ?_ | refine o_eqS ?_ | refine o_eqB ?_
  | refine b_is ?_ | refine i_is ?_ | refine s_is ?_ | refine i_tup ?_ | refine i_str ?_ | refine tr_bl ?_ | refine ty_bl ?_ | refine ty_str ?_ | refine ty_tup ?_ | refine ty_int ?_ | refine k_s ?_ | refine k_i ?_
  | refine Br.tt ?_ | refine Br.ff ?_ | refine Br.nf ?_ | refine Br.nt ?_ | refine f_ret ?_ | refine f_nx ?_ | refine f_body ?_)
local macro_rules | `(tactic| walk_at "sget") => `(tactic| first
  | assumption | exact get_app _ _ _ | exact trivial
  | (refine get_set ?_; walk_at "sget") | (refine get_app_lt ?_; walk_at "sget"))
local macro_rules | `(tactic| walk_at "len") => `(tactic| first
  | exact Nat.zero_le _ | exact len_le rfl
  | (have hbig := sizeLine_eq; simp only [List.length_map, List.length_cons, List.length_nil, List.length_append, List.length_take, List.length_drop, List.length_reverse, List.length_set, List.length_range]; omega))
local macro_rules | `(tactic| walk_at "off") => `(tactic| focus rfl)
local macro_rules | `(tactic| walk_at "e") => `(tactic| simp only [wipeE, reset, List.foldl_cons, List.foldl_nil, List.set_cons_succ, List.set_cons_zero])
local macro_rules | `(tactic| walk_at "kp") => `(tactic| first | assumption | exact Kp.refl _ | exact Kp.app _ _ | (refine Kp.trans ?_ (Kp.app _ _); walk_at "kp"))
local macro_rules | `(tactic| walk_at "set") => `(tactic| first | exact setR0 | exact setR1 | exact setR2 | exact setR3 | exact setR4 | exact setR5 | exact setR6 | exact setR7 | exact setR8 | exact setR9 | exact setR10 | exact setR11 | exact setR12 | (repeat first | exact SetR.zero | apply SetR.succ))
local macro_rules | `(tactic| walk_at "f") => `(tactic| fail)
local macro_rules | `(tactic| walk_at "x") => `(tactic| first
  | ((with_reducible show W _ _ _); first
    | ((with_reducible apply w_var); (focus exact rfl))
    | with_reducible first | refine w_c ?_ | refine w_cons ?_ | refine w_nil ?_ | refine w_bin ?_ | refine w_app ?_ | refine w_call ?_ | refine w_tup ?_ | refine w_bBl ?_ | refine w_new ?_ | refine w_iV ?_ | refine w_comp ?_ | refine w_iL ?_ | refine w_bV ?_ | refine w_disp ?_ | refine w_vAnd ?_ | refine w_vOr ?_ | refine w_bAnd ?_ | refine w_bOr ?_ | refine w_bNot ?_ | refine w_bYes ?_ | refine w_isi ?_ | refine w_callL ?_ | refine w_lval ?_ | refine w_lm ?_ | refine w_chn ?_ | refine w_un ?_ | refine w_oNone ?_ | refine w_oSome ?_ | refine w_slc ?_ | refine w_lslc ?_ | refine w_rng ?_ | refine w_vNot ?_ | refine w_vIf ?_ | refine w_cat ?_ | refine w_eqL ?_ | refine w_lenSet ?_ | refine w_app0 ?_ | refine w_extV ?_ | refine w_ext ?_ | refine w_lcallL ?_ | refine w_lcallN ?_ | refine w_sm ?_ | refine w_sm0 ?_ | refine w_lsm ?_ | refine w_smL ?_ | refine w_dic0 ?_ | refine w_dic1 ?_ | refine w_rev ?_ | refine f_ret ?_ | refine f_nx ?_
    | ((with_reducible refine g_keep ?_ ?_ ?_); (focus walk_at "kp"); (focus rfl))
    | (with_reducible refine w_str ?_ ?_; decide +kernel)
    | walk_at "f"
    | with_reducible refine f_body ?_)
  | ((with_reducible show WS _ _); first
    | with_reducible first | refine s_seqN ?_ | refine s_seq ?_ | refine q_nx ?_
    | ((with_reducible apply s_set); (focus walk_at "set"))
    | with_reducible first | refine s_expr ?_ | refine s_ret ?_ | refine s_if ?_ | refine s_nil ?_ | refine q_ret ?_ | refine s_unp ?_ | refine s_sub ?_ | refine s_for ?_ | refine q_cnt ?_ | refine q_brk ?_ | refine q_exc ?_ | refine s_retN ?_ | refine s_cnt ?_ | refine s_brk ?_ | refine s_pass ?_)
  | ((with_reducible show Op _ _); first
    | ((with_reducible apply t_n); (focus walk_at "set"))
    | with_reducible first
      | refine t_cons ?_ | refine t_nil ?_ | refine t_tup ?_ | refine i_tup ?_
      | refine o_lenT ?_
      | refine o_eqS ?_ | refine o_eqI ?_ | refine o_eqB ?_ | refine o_neI ?_ | refine o_neS ?_ | refine o_neB ?_ | refine o_is ?_ | refine o_isNot ?_ | refine o_isT ?_ | refine o_isNT ?_ | refine o_isF ?_ | refine o_isNF ?_
      | refine o_addI ?_ | refine o_sub ?_ | refine o_neg ?_ | refine o_ltI ?_ | refine o_le ?_ | refine o_gt ?_ | refine o_ge ?_ | refine o_iadd ?_
      | refine tr_bl ?_ | refine ty_bl ?_ | refine ty_str ?_ | refine ty_tup ?_ | refine ty_int ?_ | refine o_tupT ?_
      | refine o_lenF ?_ | refine o_lenS ?_ | refine o_intB ?_ | refine o_intI ?_ | refine o_max ?_ | refine o_min ?_ | refine i_str ?_ | refine k_s ?_ | refine k_i ?_
    | ((with_reducible apply o_idxT); (focus first | exact at0 _ _ | exact at1 _ _ _ | exact at2 _ _ _ _ | exact at3 _ _ _ _ _))
    | ((with_reducible apply i_ref); (focus walk_at "sget"))
    | ((with_reducible apply o_getL); (focus walk_at "sget"))
    | ((with_reducible apply o_lenR); (focus walk_at "sget"))
    | ((with_reducible apply o_idxR); (focus walk_at "sget"); (focus first | exact at0 _ _ | exact at1 _ _ _ | exact at2 _ _ _ _))
    | ((with_reducible apply o_tupR); (focus walk_at "sget"))
    | ((with_reducible apply o_listR); (focus walk_at "sget"))
    | ((with_reducible refine o_mod ?_ ?_); (focus omega))
    | ((with_reducible refine o_div ?_ ?_); (focus omega))
    | ((with_reducible refine o_pow ?_ ?_); (focus decide))
    | ((with_reducible refine o_app ?_ ?_); (focus walk_at "len"))
    | walk_at "f")
  | with_reducible first | refine b_is ?_ | refine i_is ?_ | refine s_is ?_ | refine Br.tt ?_ | refine Br.ff ?_ | refine Br.nf ?_ | refine Br.nt ?_ | refine lnew ?_ | refine il_none ?_ | refine il_some ?_ | refine revT ?_ | refine slcT ?_ | refine slcS ?_
  | ((with_reducible refine Br.of_tt ?_ ?_); focus (first | assumption | rfl | exact beq_self_eq_true _ | (simp only [decide_eq_true_eq]; omega)))
  | ((with_reducible refine Br.of_ff ?_ ?_); focus (first | assumption | rfl | (rw [beq_self_eq_true]; rfl) | (simp only [decide_eq_false_iff_not]; omega)))
  | ((with_reducible refine And.intro ?_ ?_); (focus first | ((with_reducible show _ ≤ sizeLine); walk_at "len") | ((with_reducible show lkOk _ _); walk_at "sget")))
  | ((with_reducible refine seek_nx ?_ ?_); (focus rfl); walk_at "off") | ((with_reducible refine seek_cnt ?_ ?_); (focus rfl); walk_at "off") | ((with_reducible refine seek_ret ?_); focus rfl))
local macro_rules | `(tactic| walk_at "b") => `(tactic| with_reducible first | refine b_is ?_ | refine Br.tt ?_ | refine Br.ff ?_ | refine Br.nf ?_ | refine Br.nt ?_ | refine tr_bl ?_)
local macro_rules | `(tactic| walk_at "y") => `(tactic| (fail_if_success (with_reducible refine s_if ?_)); walk_at "x")
local macro_rules | `(tactic| walk_at "f") => `(tactic| with_reducible first | refine w_iEn ?_ | refine w_iZp ?_ | refine zs_two ?_ | refine en_tup ?_ | refine en_frl ?_ | refine z_tup ?_ | refine i_frl ?_ | refine w_revT ?_)
noncomputable def bLBent : TSt :=   (sSeq (sSet 4 (vApp (fnV 2 4 bTake) (vsCons (vVar 0) (vsCons (vC (.int 8)) vsNil)))) (sSeq (sIf (bOr (bNot (bV (vIsi "tuple" (vVar 1)))) (bBl (vBin oEq (vVar 4) (vC (.int 0))))) (sSeq (sRet (vBin oIdx (vNew (lDisp (vsCons (vApp (fnV 2 4 bLOdd) (vsCons (vVar 0) (vsCons (vVar 2) vsNil))) (vsCons (vVar 3) vsNil)))) (vCall fInt (vsCons (vBin oEq (vApp (fnV 2 4 bTake) (vsCons (vVar 0) (vsCons (vC (.int 4)) vsNil))) (vC (.int 0))) vsNil)))) sNil) sNil) (sSeq (sIf (bBl (vBin oEq (vVar 4) (vC (.int 1)))) (sSeq (sRet (vNew (lCallN fList (vsCons (vVar 1) vsNil)))) sNil) sNil) (sSeq (sSet 5 (vApp (fnV 2 4 bTake) (vsCons (vVar 0) (vsCons (vCall fMax (vsCons (vC (.int 1)) (vsCons (vCall fLen (vsCons (vVar 1) vsNil)) vsNil))) vsNil)))) (sSeq (sIf (bBl (vBin oEq (vVar 4) (vC (.int 2)))) (sSeq (sRet (vBin oAdd (vSlc (vVar 1) oNone (oSome (vVar 5))) (vSlc (vVar 1) (oSome (vBin oAdd (vVar 5) (vC (.int 1)))) oNone))) sNil) sNil) (sSeq (sIf (bBl (vBin oEq (vVar 4) (vC (.int 3)))) (sSeq (sRet (vBin oAdd (vVar 1) (vSlc (vVar 1) (oSome (vVar 5)) (oSome (vBin oAdd (vVar 5) (vC (.int 1))))))) sNil) sNil) (sSeq (sIf (bBl (vBin oEq (vVar 4) (vC (.int 4)))) (sSeq (sSet 6 (vBin oAdd (vSlc (vVar 1) (oSome (vBin oAdd (vVar 5) (vC (.int 1)))) (oSome (vBin oAdd (vVar 5) (vC (.int 2))))) (vSlc (vVar 1) (oSome (vVar 5)) (oSome (vBin oAdd (vVar 5) (vC (.int 1))))))) (sSeq (sRet (vBin oAdd (vBin oAdd (vSlc (vVar 1) oNone (oSome (vVar 5))) (vVar 6)) (vSlc (vVar 1) (oSome (vBin oAdd (vVar 5) (vC (.int 2)))) oNone))) sNil)) sNil) (sSeq (sIf (bBl (vBin oEq (vVar 4) (vC (.int 5)))) (sSeq (sRet (vBin oAdd (vVar 1) (vTup (vsCons (vApp (fnV 2 4 bLOdd) (vsCons (vVar 0) (vsCons (vVar 2) vsNil))) vsNil)))) sNil) sNil) (sSeq (sIf (bAnd (bBl (vBin oEq (vVar 4) (vC (.int 6)))) (bBl (vBin oNe (vVar 1) (vTup vsNil)))) (sSeq (sRet (vBin oAdd (vBin oAdd (vSlc (vVar 1) oNone (oSome (vVar 5))) (vTup (vsCons (vVar 3) vsNil))) (vSlc (vVar 1) (oSome (vBin oAdd (vVar 5) (vC (.int 1)))) oNone))) sNil) sNil) (sSeq (sRet (vVar 1)) sNil))))))))))
def wOk (n m : Nat) (y : PV) : Prop := y.low m = true ∧ wid y ≤ n
theorem wOk.mono {n m n' m' : Nat} {y : PV} (h : wOk n m y) (a : n ≤ n') (b : m ≤ m') : wOk n' m' y := ⟨low_le b y h.1, Nat.le_trans h.2 a⟩
theorem wOk_tup {n m : Nat} {ys : List PV} : wOk n m (.tup ys) ↔ ys.length ≤ n ∧ ∀ y ∈ ys, wOk n m y := by
  unfold wOk
  rw [wid_tup, PV.low, lows_iff]
  constructor
  · rintro ⟨a, b, c⟩; exact ⟨b, fun y hy => ⟨a y hy, c y hy⟩⟩
  · rintro ⟨a, b⟩; exact ⟨fun y hy => (b y hy).1, a, fun y hy => (b y hy).2⟩
section
variable {Q : PV → Store → Prop} {E : PX → Store → Prop} {S0 : Store}
theorem bent_w {i j n : Nat} {ws : List Str} {x : PV} {z : Str} (hw : HasW i S0) (hj : j ≠ i) (hn : S0[j]? = some (.lst (ws.map .str))) (hl : ws.length = 12) (hg : ∀ z ∈ ws, good z) (ld : AllLD S0)
    (n3 : 3 ≤ n) (n4 : n ≤ 900) (hx : wOk n S0.length x) (q : ∀ (v : PV) (U : Store), Fr isWell i S0 U → AllLD U → wOk (n + 1) U.length v → Q v U) : W (fnV 4 7 bLBent [.ref i, x, .ref j, .str z] S0) Q E := by
  refine w_fn rfl ?_
  show WS (bLBent [some (.ref i), some x, some (.ref j), some (.str z), none, none, none] S0) _
  unfold bLBent
  have hi := hw.lt
  have big := sizeLine_eq
  obtain ⟨ty, hty⟩ := (tyD_low ld x hx.1).ty
  have ret : ∀ (v : PV) (T : Store), Fr isWell i S0 T → AllLD T → wOk (n + 1) T.length v → W (gcV S0 v T) Q E := fun v T F l h =>
    ret_good hi F l h.1 fun v' U' F' l' h' w' => q v' U' F' l' ⟨h', by have := h.2; omega⟩
  repeat walk_at "x"
  refine take_w hw (by omega) fun way T F u w0 w1 => ?_
  have ldT := ld.fr F u
  repeat walk_at "x"
  refine Op.of (show tyN T x = some ty by
    rw [← hty]
    cases x with
    | ref k =>
      have hk : k < S0.length := by simpa [wOk, PV.low] using hx.1
      by_cases e : k = i
      · subst e
        obtain ⟨o, h, a, b, c, rfl⟩ := hw
        obtain ⟨o', h', a', b', c', rfl⟩ := F.own
        simp only [tyN, h, h']
      · simp only [tyN, F.get k hk e]
    | _ => rfl) ?_
  have first : W (vBin oIdx (vNew (lDisp (vsCons (vApp (fnV 2 4 bLOdd) (vsCons (vVar 0) (vsCons (vVar 2) vsNil))) (vsCons (vVar 3) vsNil)))) (vCall fInt (vsCons (vBin oEq (vApp (fnV 2 4 bTake) (vsCons (vVar 0) (vsCons (vC (.int 4)) vsNil))) (vC (.int 0))) vsNil)) [some (.ref i), some x, some (.ref j), some (.str z), some (.int way), none, none] T) (fun v T => W (gcV S0 v T) Q E) (fun _ _ => False) := by
    repeat walk_at "x"
    refine odd_w F.own hj (F.of hn hj) hl hg ldT fun v U F2 ld2 lv wv => ?_
    have F3 := F.trans F2
    have hle := F3.le
    repeat walk_at "x"
    have F4 := F3.kp (Kp.app U [PObj.lst [v, .str z]])
    refine take_w F4.own (by omega) fun r V F5 u5 r0 r1 => ?_
    have hV : V[U.length]? = some (.lst [v, .str z]) := F5.of (get_app _ _ _) (by omega)
    have ldV : AllLD V := (ld2.one rfl).fr F5 u5
    have ul : V.length = U.length + 1 := by rw [u5]; simp
    repeat walk_at "x"
    split
    · refine o_idxR hV (at1 _ _ _) ?_
      repeat walk_at "x"
      exact ret _ V (F4.trans F5) ldV ⟨rfl, by simp [wid]⟩
    · refine o_idxR hV (at0 _ _) ?_
      repeat walk_at "x"
      exact ret _ V (F4.trans F5) ldV ⟨low_le (by omega) v lv, by omega⟩
  by_cases ht : ∃ xs, x = .tup xs
  · obtain ⟨xs, rfl⟩ := ht
    cases hty
    obtain ⟨xl, xo⟩ := wOk_tup.mp hx
    have fin : ∀ (ys : List PV) (T : Store), Fr isWell i S0 T → AllLD T → ys.length ≤ n + 1 → (∀ y ∈ ys, y ∈ xs ∨ wOk (n + 1) T.length y) → W (gcV S0 (.tup ys) T) Q E := fun ys T F l hy hm =>
      ret _ T F l (wOk_tup.mpr ⟨hy, fun y h => (hm y h).elim (fun h => (xo y h).mono (by omega) F.le) _root_.id⟩)
    repeat walk_at "x"
    by_cases c0 : way = 0
    · refine Br.of_tt (by simp [c0]) ?_
      repeat walk_at "b"
      refine s_seqN (s_ret (W_mono first (fun v T h => ?_) fun _ _ h => h.elim))
      repeat walk_at "x"
      exact h
    refine Br.of_ff (by simp [c0]) ?_
    repeat walk_at "x"
    by_cases c1 : way = 1
    · refine Br.of_tt (by simp [c1]) ?_
      repeat walk_at "x"
      refine Op.of (x := xs) rfl ?_
      repeat walk_at "x"
      refine ret _ _ (F.kp (Kp.app _ _)) (ldT.one rfl) ⟨by simp [PV.low], by simp [wid]⟩
    refine Br.of_ff (by simp [c1]) ?_
    repeat walk_at "x"
    refine take_w F.own ⟨by split <;> omega, by split <;> omega⟩ fun r U F2 u2 r0 r1 => ?_
    have F3 := F.trans F2
    have ldU := ldT.fr F2 u2
    have rl : r.toNat < max 1 xs.length := by
      split at r1 <;> omega
    repeat walk_at "x"
    by_cases c2 : way = 2
    · refine Br.of_tt (by simp [c2]) ?_
      repeat walk_at "x"
      rw [cut_to _ r0, cut_from _ (by omega)]
      refine o_addT (by simp only [List.length_take, List.length_drop]; omega) ?_
      repeat walk_at "x"
      refine fin _ _ F3 ldU (by simp only [List.length_append, List.length_take, List.length_drop]; omega) fun y hy => .inl ?_
      rcases List.mem_append.mp hy with h | h
      · exact List.mem_of_mem_take h
      · exact List.mem_of_mem_drop h
    refine Br.of_ff (by simp [c2]) ?_
    repeat walk_at "x"
    by_cases c3 : way = 3
    · refine Br.of_tt (by simp [c3]) ?_
      repeat walk_at "x"
      rw [cut_mid _ r0 (by omega)]
      refine o_addT (by simp only [List.length_take, List.length_drop]; omega) ?_
      repeat walk_at "x"
      refine fin _ _ F3 ldU (by simp only [List.length_append, List.length_take, List.length_drop]; omega) fun y hy => .inl ?_
      rcases List.mem_append.mp hy with h | h
      · exact h
      · exact List.mem_of_mem_drop (List.mem_of_mem_take h)
    refine Br.of_ff (by simp [c3]) ?_
    repeat walk_at "x"
    by_cases c4 : way = 4
    · refine Br.of_tt (by simp [c4]) ?_
      repeat walk_at "x"
      rw [cut_mid _ (by omega) (by omega), cut_mid _ r0 (by omega)]
      refine o_addT (by simp only [List.length_take, List.length_drop]; omega) ?_
      repeat walk_at "x"
      rw [cut_to _ r0]
      refine o_addT (by simp only [List.length_append, List.length_take, List.length_drop]; omega) ?_
      repeat walk_at "x"
      rw [cut_from _ (by omega)]
      refine o_addT (by simp only [List.length_append, List.length_take, List.length_drop]; omega) ?_
      repeat walk_at "x"
      refine fin _ _ F3 ldU (by simp only [List.length_append, List.length_take, List.length_drop]; omega) fun y hy => .inl ?_
      simp only [List.mem_append] at hy
      rcases hy with (h | h | h) | h
      · exact List.mem_of_mem_take h
      · exact List.mem_of_mem_drop (List.mem_of_mem_take h)
      · exact List.mem_of_mem_drop (List.mem_of_mem_take h)
      · exact List.mem_of_mem_drop h
    refine Br.of_ff (by simp [c4]) ?_
    repeat walk_at "x"
    by_cases c5 : way = 5
    · refine Br.of_tt (by simp [c5]) ?_
      repeat walk_at "x"
      refine odd_w F3.own hj (F3.of hn hj) hl hg ldU fun v V F4 ld4 lv wv => ?_
      repeat walk_at "x"
      refine o_addT (by simp; omega) ?_
      repeat walk_at "x"
      refine fin _ _ (F3.trans F4) ld4 (by simp; omega) fun y hy => ?_
      rcases List.mem_append.mp hy with h | h
      · exact .inl h
      · rw [List.mem_singleton.mp h]; exact .inr ⟨lv, by omega⟩
    refine Br.of_ff (by simp [c5]) ?_
    repeat walk_at "x"
    have last : W (gcV S0 (.tup xs) U) Q E := fin _ _ F3 ldU (by omega) fun y hy => .inl hy
    by_cases c6 : way = 6
    · refine Br.of_tt (by simp [c6]) ?_
      repeat walk_at "x"
      refine o_ne (eq_emptyT _) ?_
      cases he : xs.isEmpty
      · repeat walk_at "x"
        rw [cut_to _ r0]
        have hp : 0 < xs.length := by
          cases xs with
          | nil => cases he
          | cons a b => simp
        refine o_addT (by simp only [List.length_take, List.length_cons, List.length_nil]; omega) ?_
        repeat walk_at "x"
        rw [cut_from _ (by omega)]
        refine o_addT (by simp only [List.length_append, List.length_cons, List.length_nil, List.length_take, List.length_drop]; omega) ?_
        repeat walk_at "x"
        refine fin _ _ F3 ldU (by simp only [List.length_append, List.length_cons, List.length_nil, List.length_take, List.length_drop]; omega) fun y hy => ?_
        simp only [List.mem_append, List.mem_singleton] at hy
        rcases hy with (h | h) | h
        · exact .inl (List.mem_of_mem_take h)
        · rw [h]; exact .inr ⟨rfl, by simp [wid]⟩
        · exact .inl (List.mem_of_mem_drop h)
      · repeat walk_at "x"
        exact last
    · refine Br.of_ff (by simp [c6]) ?_
      repeat walk_at "x"
      exact last
  · rw [ty_notT hty fun z h => ht ⟨z, h⟩]
    repeat walk_at "b"
    refine s_seqN (s_ret (W_mono first (fun v T h => ?_) fun _ _ h => h.elim))
    repeat walk_at "x"
    exact h
end
end Ev

/-! Fw46 -/
namespace Ev
open PySem PySem.Spec PyProof.Rows L2 SX
local macro_rules | `(tactic| walk_at "w") => `(tactic| first
  | (with_reducible apply s_set; focus (repeat first | exact SetR.zero | apply SetR.succ))
  | (with_reducible apply w_get; focus (repeat first | exact GetR.zero | apply GetR.succ))
  | with_reducible first
  | refine s_seqN ?_ | refine s_seq ?_ | refine q_nx ?_ | refine q_ret ?_ | refine q_brk ?_ | refine q_cnt ?_ | refine q_exc ?_
  | refine s_nil ?_ | refine s_pass ?_ | refine s_brk ?_ | refine s_cnt ?_ | refine s_expr ?_ | refine s_ret ?_ | refine s_retN ?_ | refine s_if ?_ | refine s_unp ?_ | refine s_sub ?_ | refine s_for ?_
  | refine w_c ?_ | (refine w_str ?_ ?_; decide +kernel) | refine w_bin ?_ | refine w_un ?_ | refine w_chn ?_ | refine w_bV ?_ | refine w_bBl ?_ | refine w_bAnd ?_ | refine w_bOr ?_ | refine w_bNot ?_ | refine w_bYes ?_
  | refine w_vAnd ?_ | refine w_vOr ?_ | refine w_vNot ?_ | refine w_vIf ?_ | refine w_nil ?_ | refine w_cons ?_ | refine w_tup ?_ | refine w_disp ?_ | refine w_new ?_ | refine lnew ?_ | refine w_oNone ?_ | refine w_oSome ?_ | refine w_slc ?_ | refine w_lslc ?_ | refine slcT ?_ | refine slcS ?_
  | refine w_call ?_ | refine w_callL ?_ | refine w_lcallL ?_ | refine w_lcallN ?_ | refine w_isi ?_ | refine w_app ?_ | refine w_app0 ?_ | refine w_lval ?_ | refine w_cat ?_ | refine w_eqL ?_ | refine w_lm ?_ | refine w_ext ?_ | refine w_sm ?_ | refine w_sm0 ?_ | refine w_lsm ?_ | refine w_smL ?_ | refine w_dic0 ?_ | refine w_dic1 ?_ | refine w_iV ?_ | refine w_iL ?_ | refine il_none ?_ | refine il_some ?_ | refine w_rng ?_ | refine w_comp ?_ | refine w_rev ?_ | refine w_lenSet ?_ | refine w_extV ?_
  | refine o_addI ?_ | refine o_iadd ?_ | refine o_sub ?_ | refine o_neg ?_ | refine o_ltI ?_ | refine o_le ?_ | refine o_gt ?_ | refine o_ge ?_ | refine o_is ?_ | refine o_isNot ?_ | refine o_lenT ?_ | refine o_lenF ?_ | refine o_lenS ?_ | refine o_intB ?_ | refine o_intI ?_ | refine o_max ?_ | refine o_min ?_ | refine o_tupT ?_ | refine o_eqI ?_ | refine o_eqS ?_ | refine o_eqB ?_
  | refine b_is ?_ | refine i_is ?_ | refine s_is ?_ | refine i_tup ?_ | refine i_str ?_ | refine tr_bl ?_ | refine ty_bl ?_ | refine ty_str ?_ | refine ty_tup ?_ | refine ty_int ?_ | refine k_s ?_ | refine k_i ?_
  | refine Br.tt ?_ | refine Br.ff ?_ | refine Br.nf ?_ | refine Br.nt ?_ | refine f_ret ?_ | refine f_nx ?_ | refine f_body ?_)
local macro_rules | `(tactic| walk_at "sget") => `(tactic| first
  | assumption | exact get_app _ _ _ | exact trivial
  | (refine get_set ?_; walk_at "sget") | (refine get_app_lt ?_; walk_at "sget"))
local macro_rules | `(tactic| walk_at "len") => `(tactic| first
  | exact Nat.zero_le _ | exact len_le rfl
  | (have hbig := sizeLine_eq; simp only [List.length_map, List.length_cons, List.length_nil, List.length_append, List.length_take, List.length_drop, List.length_reverse, List.length_set, List.length_range]; omega))
local macro_rules | `(tactic| walk_at "off") => `(tactic| focus rfl)
local macro_rules | `(tactic| walk_at "e") => `(tactic| simp only [wipeE, reset, List.foldl_cons, List.foldl_nil, List.set_cons_succ, List.set_cons_zero])
local macro_rules | `(tactic| walk_at "kp") => `(tactic| first | assumption | exact Kp.refl _ | exact Kp.app _ _ | (refine Kp.trans ?_ (Kp.app _ _); walk_at "kp"))
local macro_rules | `(tactic| walk_at "set") => `(tactic| first | exact setR0 | exact setR1 | exact setR2 | exact setR3 | exact setR4 | exact setR5 | exact setR6 | exact setR7 | exact setR8 | exact setR9 | exact setR10 | exact setR11 | exact setR12 | (repeat first | exact SetR.zero | apply SetR.succ))
local macro_rules | `(tactic| walk_at "f") => `(tactic| fail)
local macro_rules | `(tactic| walk_at "x") => `(tactic| first
  | ((with_reducible show W _ _ _); first
    | ((with_reducible apply w_var); (focus exact rfl))
    | with_reducible first | refine w_c ?_ | refine w_cons ?_ | refine w_nil ?_ | refine w_bin ?_ | refine w_app ?_ | refine w_call ?_ | refine w_tup ?_ | refine w_bBl ?_ | refine w_new ?_ | refine w_iV ?_ | refine w_comp ?_ | refine w_iL ?_ | refine w_bV ?_ | refine w_disp ?_ | refine w_vAnd ?_ | refine w_vOr ?_ | refine w_bAnd ?_ | refine w_bOr ?_ | refine w_bNot ?_ | refine w_bYes ?_ | refine w_isi ?_ | refine w_callL ?_ | refine w_lval ?_ | refine w_lm ?_ | refine w_chn ?_ | refine w_un ?_ | refine w_oNone ?_ | refine w_oSome ?_ | refine w_slc ?_ | refine w_lslc ?_ | refine w_rng ?_ | refine w_vNot ?_ | refine w_vIf ?_ | refine w_cat ?_ | refine w_eqL ?_ | refine w_lenSet ?_ | refine w_app0 ?_ | refine w_extV ?_ | refine w_ext ?_ | refine w_lcallL ?_ | refine w_lcallN ?_ | refine w_sm ?_ | refine w_sm0 ?_ | refine w_lsm ?_ | refine w_smL ?_ | refine w_dic0 ?_ | refine w_dic1 ?_ | refine w_rev ?_ | refine f_ret ?_ | refine f_nx ?_
    | ((with_reducible refine g_keep ?_ ?_ ?_); (focus walk_at "kp"); (focus rfl))
    | (with_reducible refine w_str ?_ ?_; decide +kernel)
    | walk_at "f"
    | with_reducible refine f_body ?_)
  | ((with_reducible show WS _ _); first
    | with_reducible first | refine s_seqN ?_ | refine s_seq ?_ | refine q_nx ?_
    | ((with_reducible apply s_set); (focus walk_at "set"))
    | with_reducible first | refine s_expr ?_ | refine s_ret ?_ | refine s_if ?_ | refine s_nil ?_ | refine q_ret ?_ | refine s_unp ?_ | refine s_sub ?_ | refine s_for ?_ | refine q_cnt ?_ | refine q_brk ?_ | refine q_exc ?_ | refine s_retN ?_ | refine s_cnt ?_ | refine s_brk ?_ | refine s_pass ?_)
  | ((with_reducible show Op _ _); first
    | ((with_reducible apply t_n); (focus walk_at "set"))
    | with_reducible first
      | refine t_cons ?_ | refine t_nil ?_ | refine t_tup ?_ | refine i_tup ?_
      | refine o_lenT ?_
      | refine o_eqS ?_ | refine o_eqI ?_ | refine o_eqB ?_ | refine o_neI ?_ | refine o_neS ?_ | refine o_neB ?_ | refine o_is ?_ | refine o_isNot ?_ | refine o_isT ?_ | refine o_isNT ?_ | refine o_isF ?_ | refine o_isNF ?_
      | refine o_addI ?_ | refine o_sub ?_ | refine o_neg ?_ | refine o_ltI ?_ | refine o_le ?_ | refine o_gt ?_ | refine o_ge ?_ | refine o_iadd ?_
      | refine tr_bl ?_ | refine ty_bl ?_ | refine ty_str ?_ | refine ty_tup ?_ | refine ty_int ?_ | refine o_tupT ?_
      | refine o_lenF ?_ | refine o_lenS ?_ | refine o_intB ?_ | refine o_intI ?_ | refine o_max ?_ | refine o_min ?_ | refine i_str ?_ | refine k_s ?_ | refine k_i ?_
    | ((with_reducible apply o_idxT); (focus first | exact at0 _ _ | exact at1 _ _ _ | exact at2 _ _ _ _ | exact at3 _ _ _ _ _))
    | ((with_reducible apply i_ref); (focus walk_at "sget"))
    | ((with_reducible apply o_getL); (focus walk_at "sget"))
    | ((with_reducible apply o_lenR); (focus walk_at "sget"))
    | ((with_reducible apply o_idxR); (focus walk_at "sget"); (focus first | exact at0 _ _ | exact at1 _ _ _ | exact at2 _ _ _ _))
    | ((with_reducible apply o_tupR); (focus walk_at "sget"))
    | ((with_reducible apply o_listR); (focus walk_at "sget"))
    | ((with_reducible refine o_mod ?_ ?_); (focus omega))
    | ((with_reducible refine o_div ?_ ?_); (focus omega))
    | ((with_reducible refine o_pow ?_ ?_); (focus decide))
    | ((with_reducible refine o_app ?_ ?_); (focus walk_at "len"))
    | walk_at "f")
  | with_reducible first | refine b_is ?_ | refine i_is ?_ | refine s_is ?_ | refine Br.tt ?_ | refine Br.ff ?_ | refine Br.nf ?_ | refine Br.nt ?_ | refine lnew ?_ | refine il_none ?_ | refine il_some ?_ | refine revT ?_ | refine slcT ?_ | refine slcS ?_
  | ((with_reducible refine Br.of_tt ?_ ?_); focus (first | assumption | rfl | exact beq_self_eq_true _ | (simp only [decide_eq_true_eq]; omega)))
  | ((with_reducible refine Br.of_ff ?_ ?_); focus (first | assumption | rfl | (rw [beq_self_eq_true]; rfl) | (simp only [decide_eq_false_iff_not]; omega)))
  | ((with_reducible refine And.intro ?_ ?_); (focus first | ((with_reducible show _ ≤ sizeLine); walk_at "len") | ((with_reducible show lkOk _ _); walk_at "sget")))
  | ((with_reducible refine seek_nx ?_ ?_); (focus rfl); walk_at "off") | ((with_reducible refine seek_cnt ?_ ?_); (focus rfl); walk_at "off") | ((with_reducible refine seek_ret ?_); focus rfl))
local macro_rules | `(tactic| walk_at "b") => `(tactic| with_reducible first | refine b_is ?_ | refine Br.tt ?_ | refine Br.ff ?_ | refine Br.nf ?_ | refine Br.nt ?_ | refine tr_bl ?_)
local macro_rules | `(tactic| walk_at "y") => `(tactic| (fail_if_success (with_reducible refine s_if ?_)); walk_at "x")
local macro_rules | `(tactic| walk_at "f") => `(tactic| with_reducible first | refine w_iEn ?_ | refine w_iZp ?_ | refine zs_two ?_ | refine en_tup ?_ | refine en_frl ?_ | refine z_tup ?_ | refine i_frl ?_ | refine w_revT ?_)
noncomputable def bLSpoilt : TSt := (sSeq (sSet 4 (vVar 1)) (sSeq (sSet 5 (vNew (lDisp vsNil))) (sSeq (sWhile (bAnd (bBl (vBin oLt (vCall fLen (vsCons (vVar 5) vsNil)) (vVar 3))) (bAnd (bV (vIsi "tuple" (vVar 4))) (bBl (vBin oNe (vVar 4) (vTup vsNil))))) (sSeq (sSet 6 (vApp (fnV 2 4 bTake) (vsCons (vVar 0) (vsCons (vCall fLen (vsCons (vVar 4) vsNil)) vsNil)))) (sSeq (sExpr (vLm mAppend (vVar 5) (vsCons (vTup (vsCons (vVar 4) (vsCons (vVar 6) vsNil))) vsNil))) (sSeq (sSet 4 (vBin oIdx (vVar 4) (vVar 6))) sNil)))) (sSeq (sSet 7 (vApp (fnV 4 7 bLBent) (vsCons (vVar 0) (vsCons (vVar 4) (vsCons (vVar 2) (vsCons (vBin oIdx (vVar 2) (vApp (fnV 2 4 bTake) (vsCons (vVar 0) (vsCons (vC (.int 12)) vsNil)))) vsNil)))))) (sSeq (sFor (tgT (tgCons (tgN 8) (tgCons (tgN 6) tgNil))) (iL (lRev (vVar 5))) (sSeq (sSet 7 (vBin oAdd (vBin oAdd (vSlc (vVar 8) oNone (oSome (vVar 6))) (vTup (vsCons (vVar 7) vsNil))) (vSlc (vVar 8) (oSome (vBin oAdd (vVar 6) (vC (.int 1)))) oNone))) sNil)) (sSeq (sRet (vVar 7)) sNil))))))
noncomputable def bLSpoilt_3 : TSt := (sSeq (sSet 7 (vApp (fnV 4 7 bLBent) (vsCons (vVar 0) (vsCons (vVar 4) (vsCons (vVar 2) (vsCons (vBin oIdx (vVar 2) (vApp (fnV 2 4 bTake) (vsCons (vVar 0) (vsCons (vC (.int 12)) vsNil)))) vsNil)))))) (sSeq (sFor (tgT (tgCons (tgN 8) (tgCons (tgN 6) tgNil))) (iL (lRev (vVar 5))) (sSeq (sSet 7 (vBin oAdd (vBin oAdd (vSlc (vVar 8) oNone (oSome (vVar 6))) (vTup (vsCons (vVar 7) vsNil))) (vSlc (vVar 8) (oSome (vBin oAdd (vVar 6) (vC (.int 1)))) oNone))) sNil)) (sSeq (sRet (vVar 7)) sNil)))
section
variable {Q : PV → Store → Prop} {E : PX → Store → Prop} {S0 : Store}
def ePath (p : List PV × Nat) : PV := .tup [.tup p.1, .int ((p.2 : Nat) : Int)]
theorem tyN_tup_iff {S : Store} {x : PV} {t : String} (h : tyN S x = some t) : isI t "tuple" = true ↔ ∃ xs, x = .tup xs := by
  constructor
  · intro h1
    refine Classical.byContradiction fun hn => ?_
    rw [ty_notT h fun z e => hn ⟨z, e⟩] at h1
    cases h1
  · rintro ⟨xs, rfl⟩
    cases h; rfl
theorem spoilt_w {i j n : Nat} {dp : Int} {ws : List Str} {x : PV} (hw : HasW i S0) (hj : j ≠ i) (hn : S0[j]? = some (.lst (ws.map .str))) (hl : ws.length = 12) (hg : ∀ z ∈ ws, good z) (ld : AllLD S0)
    (n3 : 3 ≤ n) (n4 : n ≤ 900) (d0 : dp ≤ 100) (hx : wOk n S0.length x) (q : ∀ (v : PV) (U : Store), Fr isWell i S0 U → AllLD U → wOk (n + 1) U.length v → Q v U) : W (fnV 4 9 bLSpoilt [.ref i, x, .ref j, .int dp] S0) Q E := by
  refine w_fn rfl ?_
  show WS (bLSpoilt [some (.ref i), some x, some (.ref j), some (.int dp), none, none, none, none, none] S0) _
  unfold bLSpoilt
  have hi := hw.lt
  have big := sizeLine_eq
  repeat walk_at "x"
  refine s_while (fun m ρ T => Fr isWell i S0 T ∧ AllLD T ∧ ∃ (ps : List (List PV × Nat)) (y : PV) (e6 : Option PV), ((m : Int) = max 0 (dp - ps.length)) ∧ wOk n T.length y ∧ (∀ p ∈ ps, wOk n T.length (.tup p.1) ∧ p.2 < p.1.length) ∧ T[S0.length]? = some (.lst (ps.map ePath)) ∧ ps.length ≤ max 0 dp ∧ ρ = [some (.ref i), some x, some (.ref j), some (.int dp), some y, some (.ref S0.length), e6, none, none])
    (max 0 dp).toNat ⟨(Kp.app _ _).fr hw, ld.one rfl, [], x, none, by simp, hx.mono (Nat.le_refl _) (by simp), by simp, get_app _ _ _, by simp; omega, rfl⟩ fun m ρ T h => ?_
  obtain ⟨F, ldT, ps, y, e6, hm, hy, hp, hT, hpl, rfl⟩ := h
  have hle := F.le
  -- what comes behind the way inwards
  have rest : WS (bLSpoilt_3 [some (.ref i), some x, some (.ref j), some (.int dp), some y, some (.ref S0.length), e6, none, none] T) fun r => W (fin S0 r) Q E := by
    unfold bLSpoilt_3
    repeat walk_at "x"
    refine take_w F.own (by omega) fun r U F2 u2 r0 r1 => ?_
    have F3 := F.trans F2
    obtain ⟨z, hz, hzm⟩ := atI_ex (xs := ws) (k := r) r0 (by omega)
    refine o_idxR (F3.of hn hj) (y := .str z) (by rw [atI_map, hz]; rfl) ?_
    repeat walk_at "x"
    refine bent_w F2.own hj (F3.of hn hj) hl hg (ldT.fr F2 u2) n3 n4 (hy.mono (Nat.le_refl _) (by omega)) fun v V F4 ldV hv => ?_
    have F5 := F3.trans F4
    have hle2 := F4.le
    have hV : V[S0.length]? = some (.lst (ps.map ePath)) := F4.of (F2.of hT (by omega)) (by omega)
    repeat walk_at "x"
    refine revR hV ?_
    rw [← List.map_reverse]
    repeat walk_at "x"
    refine s_loop (fun rest ρ W' => W' = V ∧ ∃ (qs : List (List PV × Nat)) (v : PV) (e6 e8 : Option PV), rest = qs.map ePath ∧ (∀ p ∈ qs, p ∈ ps) ∧ wOk (n + 1) V.length v ∧ ρ = [some (.ref i), some x, some (.ref j), some (.int dp), some y, some (.ref S0.length), e6, some v, e8])
      ⟨rfl, ps.reverse, v, _, _, rfl, fun p h => List.mem_reverse.mp h, hv, rfl⟩ (fun t rest ρ W' h => ?_) (fun ρ W' h => ⟨trivial, ?_⟩)
    · obtain ⟨rfl, qs, v, e6, e8, hr, hq, hv, rfl⟩ := h
      refine ⟨trivial, ?_⟩
      cases qs with
      | nil => cases hr
      | cons p qs =>
        simp only [List.map_cons, List.cons.injEq] at hr
        obtain ⟨rfl, rfl⟩ := hr
        obtain ⟨hpw, hpl⟩ := hp p (hq p (by simp))
        obtain ⟨hp1, hp2⟩ := wOk_tup.mp hpw
        unfold ePath
        repeat walk_at "x"
        rw [cut_to _ (by omega)]
        refine o_addT (by simp only [List.length_take, List.length_cons, List.length_nil]; omega) ?_
        repeat walk_at "x"
        rw [cut_from _ (by omega)]
        refine o_addT (by simp only [List.length_append, List.length_cons, List.length_nil, List.length_take, List.length_drop]; omega) ?_
        refine ⟨rfl, qs, _, _, _, rfl, fun p h => hq p (by simp [h]), wOk_tup.mpr ⟨?_, fun w hw => ?_⟩, rfl⟩
        · simp only [List.length_append, List.length_cons, List.length_nil, List.length_take, List.length_drop]; omega
        · simp only [List.mem_append, List.mem_singleton] at hw
          rcases hw with (h | h) | h
          · exact (hp2 w (List.mem_of_mem_take h)).mono (by omega) (by omega)
          · rw [h]; exact hv
          · exact (hp2 w (List.mem_of_mem_drop h)).mono (by omega) (by omega)
    · obtain ⟨rfl, qs, v, e6, e8, hr, hq, hv, rfl⟩ := h
      repeat walk_at "x"
      exact ret_good hi F5 ldV hv.1 fun v' U' F' l' h' w' => q v' U' F' l' ⟨h', by have := hv.2; omega⟩
  repeat walk_at "x"
  rw [List.length_map]
  refine Br.dec (fun c1 => ?_) (fun c1 => ?_)
  · repeat walk_at "x"
    obtain ⟨ty, hty⟩ := (tyD_low ldT y hy.1).ty
    refine Op.of hty ?_
    by_cases ht : ∃ xs, y = .tup xs
    · obtain ⟨xs, rfl⟩ := ht
      cases hty
      obtain ⟨hy1, hy2⟩ := wOk_tup.mp hy
      repeat walk_at "x"
      refine o_ne (eq_emptyT _) ?_
      cases he : xs.isEmpty
      · have hpos : 0 < xs.length := by
          cases xs with
          | nil => cases he
          | cons a b => simp
        repeat walk_at "x"
        refine take_w F.own ⟨by omega, by omega⟩ fun r U F2 u2 r0 r1 => ?_
        have F3 := F.trans F2
        obtain ⟨y', hy', hym⟩ := atI_ex (xs := xs) (k := r) r0 r1
        have hU := F2.of hT (by omega)
        repeat walk_at "x"
        refine o_idxT hy' ?_
        refine ⟨m - 1, by omega, F3.setL (Nat.le_refl _) (by omega) _, fun o ho => ?_, ps ++ [(xs, r.toNat)], y', _, ?_, ?_, ?_, ?_, ?_, rfl⟩
        · rcases List.mem_or_eq_of_mem_set ho with h | h
          · exact (ldT.fr F2 u2) o h
          · rw [h]; rfl
        · simp only [List.length_append, List.length_cons, List.length_nil]; omega
        · rw [List.length_set]; exact (hy2 y' hym).mono (Nat.le_refl _) (by omega)
        · intro p hp'
          rw [List.length_set]
          rcases List.mem_append.mp hp' with h | h
          · exact ⟨(hp p h).1.mono (Nat.le_refl _) (by omega), (hp p h).2⟩
          · rw [List.mem_singleton.mp h]
            exact ⟨hy.mono (Nat.le_refl _) (by omega), by dsimp only; omega⟩
        · rw [List.map_append]
          have e : ((r.toNat : Nat) : Int) = r := by omega
          simp only [List.map_cons, List.map_nil, ePath, e]
          exact get_set hU
        · simp only [List.length_append, List.length_cons, List.length_nil]; omega
      · repeat walk_at "b"
        exact q_nx rest
    · rw [ty_notT hty fun z h => ht ⟨z, h⟩]
      repeat walk_at "b"
      exact q_nx rest
  · repeat walk_at "b"
    exact q_nx rest
end
end Ev

/-! Fw47 -/
namespace Ev
open PySem PySem.Spec PyProof.Rows L2 SX
local macro_rules | `(tactic| walk_at "w") => `(tactic| first
  | (with_reducible apply s_set; focus (repeat first | exact SetR.zero | apply SetR.succ))
  | (with_reducible apply w_get; focus (repeat first | exact GetR.zero | apply GetR.succ))
  | with_reducible first
  | refine s_seqN ?_ | refine s_seq ?_ | refine q_nx ?_ | refine q_ret ?_ | refine q_brk ?_ | refine q_cnt ?_ | refine q_exc ?_
  | refine s_nil ?_ | refine s_pass ?_ | refine s_brk ?_ | refine s_cnt ?_ | refine s_expr ?_ | refine s_ret ?_ | refine s_retN ?_ | refine s_if ?_ | refine s_unp ?_ | refine s_sub ?_ | refine s_for ?_
  | refine w_c ?_ | (refine w_str ?_ ?_; decide +kernel) | refine w_bin ?_ | refine w_un ?_ | refine w_chn ?_ | refine w_bV ?_ | refine w_bBl ?_ | refine w_bAnd ?_ | refine w_bOr ?_ | refine w_bNot ?_ | refine w_bYes ?_
  | refine w_vAnd ?_ | refine w_vOr ?_ | refine w_vNot ?_ | refine w_vIf ?_ | refine w_nil ?_ | refine w_cons ?_ | refine w_tup ?_ | refine w_disp ?_ | refine w_new ?_ | refine lnew ?_ | refine w_oNone ?_ | refine w_oSome ?_ | refine w_slc ?_ | refine w_lslc ?_ | refine slcT ?_ | refine slcS ?_
  | refine w_call ?_ | refine w_callL ?_ | refine w_lcallL ?_ | refine w_lcallN ?_ | refine w_isi ?_ | refine w_app ?_ | refine w_app0 ?_ | refine w_lval ?_ | refine w_cat ?_ | refine w_eqL ?_ | refine w_lm ?_ | refine w_ext ?_ | refine w_sm ?_ | refine w_sm0 ?_ | refine w_lsm ?_ | refine w_smL ?_ | refine w_dic0 ?_ | refine w_dic1 ?_ | refine w_iV ?_ | refine w_iL ?_ | refine il_none ?_ | refine il_some ?_ | refine w_rng ?_ | refine w_comp ?_ | refine w_rev ?_ | refine w_lenSet ?_ | refine w_extV ?_
  | refine o_addI ?_ | refine o_iadd ?_ | refine o_sub ?_ | refine o_neg ?_ | refine o_ltI ?_ | refine o_le ?_ | refine o_gt ?_ | refine o_ge ?_ | refine o_is ?_ | refine o_isNot ?_ | refine o_lenT ?_ | refine o_lenF ?_ | refine o_lenS ?_ | refine o_intB ?_ | refine o_intI ?_ | refine o_max ?_ | refine o_min ?_ | refine o_tupT ?_ | refine o_eqI ?_ | refine o_eqS ?_ | refine o_eqB ?_
  | refine b_is ?_ | refine i_is ?_ | refine s_is ?_ | refine i_tup ?_ | refine i_str ?_ | refine tr_bl ?_ | refine ty_bl ?_ | refine ty_str ?_ | refine ty_tup ?_ | refine ty_int ?_ | refine k_s ?_ | refine k_i ?_
  | refine Br.tt ?_ | refine Br.ff ?_ | refine Br.nf ?_ | refine Br.nt ?_ | refine f_ret ?_ | refine f_nx ?_ | refine f_body ?_)
local macro_rules | `(tactic| walk_at "sget") => `(tactic| first
  | assumption | exact get_app _ _ _ | exact trivial
  | (refine get_set ?_; walk_at "sget") | (refine get_app_lt ?_; walk_at "sget"))
local macro_rules | `(tactic| walk_at "len") => `(tactic| first
  | exact Nat.zero_le _ | exact len_le rfl
  | (have hbig := sizeLine_eq; simp only [List.length_map, List.length_cons, List.length_nil, List.length_append, List.length_take, List.length_drop, List.length_reverse, List.length_set, List.length_range]; omega))
local macro_rules | `(tactic| walk_at "off") => `(tactic| focus rfl)
local macro_rules | `(tactic| walk_at "e") => `(tactic| simp only [wipeE, reset, List.foldl_cons, List.foldl_nil, List.set_cons_succ, List.set_cons_zero])
local macro_rules | `(tactic| walk_at "kp") => `(tactic| first | assumption | exact Kp.refl _ | exact Kp.app _ _ | (refine Kp.trans ?_ (Kp.app _ _); walk_at "kp"))
local macro_rules | `(tactic| walk_at "set") => `(tactic| first | exact setR0 | exact setR1 | exact setR2 | exact setR3 | exact setR4 | exact setR5 | exact setR6 | exact setR7 | exact setR8 | exact setR9 | exact setR10 | exact setR11 | exact setR12 | (repeat first | exact SetR.zero | apply SetR.succ))
local macro_rules | `(tactic| walk_at "f") => `(tactic| fail)
local macro_rules | `(tactic| walk_at "x") => `(tactic| first
  | ((with_reducible show W _ _ _); first
    | ((with_reducible apply w_var); (focus exact rfl))
    | with_reducible first | refine w_c ?_ | refine w_cons ?_ | refine w_nil ?_ | refine w_bin ?_ | refine w_app ?_ | refine w_call ?_ | refine w_tup ?_ | refine w_bBl ?_ | refine w_new ?_ | refine w_iV ?_ | refine w_comp ?_ | refine w_iL ?_ | refine w_bV ?_ | refine w_disp ?_ | refine w_vAnd ?_ | refine w_vOr ?_ | refine w_bAnd ?_ | refine w_bOr ?_ | refine w_bNot ?_ | refine w_bYes ?_ | refine w_isi ?_ | refine w_callL ?_ | refine w_lval ?_ | refine w_lm ?_ | refine w_chn ?_ | refine w_un ?_ | refine w_oNone ?_ | refine w_oSome ?_ | refine w_slc ?_ | refine w_lslc ?_ | refine w_rng ?_ | refine w_vNot ?_ | refine w_vIf ?_ | refine w_cat ?_ | refine w_eqL ?_ | refine w_lenSet ?_ | refine w_app0 ?_ | refine w_extV ?_ | refine w_ext ?_ | refine w_lcallL ?_ | refine w_lcallN ?_ | refine w_sm ?_ | refine w_sm0 ?_ | refine w_lsm ?_ | refine w_smL ?_ | refine w_dic0 ?_ | refine w_dic1 ?_ | refine w_rev ?_ | refine f_ret ?_ | refine f_nx ?_
    | ((with_reducible refine g_keep ?_ ?_ ?_); (focus walk_at "kp"); (focus rfl))
    | (with_reducible refine w_str ?_ ?_; decide +kernel)
    | walk_at "f"
    | with_reducible refine f_body ?_)
  | ((with_reducible show WS _ _); first
    | with_reducible first | refine s_seqN ?_ | refine s_seq ?_ | refine q_nx ?_
    | ((with_reducible apply s_set); (focus walk_at "set"))
    | with_reducible first | refine s_expr ?_ | refine s_ret ?_ | refine s_if ?_ | refine s_nil ?_ | refine q_ret ?_ | refine s_unp ?_ | refine s_sub ?_ | refine s_for ?_ | refine q_cnt ?_ | refine q_brk ?_ | refine q_exc ?_ | refine s_retN ?_ | refine s_cnt ?_ | refine s_brk ?_ | refine s_pass ?_)
  | ((with_reducible show Op _ _); first
    | ((with_reducible apply t_n); (focus walk_at "set"))
    | with_reducible first
      | refine t_cons ?_ | refine t_nil ?_ | refine t_tup ?_ | refine i_tup ?_
      | refine o_lenT ?_
      | refine o_eqS ?_ | refine o_eqI ?_ | refine o_eqB ?_ | refine o_neI ?_ | refine o_neS ?_ | refine o_neB ?_ | refine o_is ?_ | refine o_isNot ?_ | refine o_isT ?_ | refine o_isNT ?_ | refine o_isF ?_ | refine o_isNF ?_
      | refine o_addI ?_ | refine o_sub ?_ | refine o_neg ?_ | refine o_ltI ?_ | refine o_le ?_ | refine o_gt ?_ | refine o_ge ?_ | refine o_iadd ?_
      | refine tr_bl ?_ | refine ty_bl ?_ | refine ty_str ?_ | refine ty_tup ?_ | refine ty_int ?_ | refine o_tupT ?_
      | refine o_lenF ?_ | refine o_lenS ?_ | refine o_intB ?_ | refine o_intI ?_ | refine o_max ?_ | refine o_min ?_ | refine i_str ?_ | refine k_s ?_ | refine k_i ?_
    | ((with_reducible apply o_idxT); (focus first | exact at0 _ _ | exact at1 _ _ _ | exact at2 _ _ _ _ | exact at3 _ _ _ _ _))
    | ((with_reducible apply i_ref); (focus walk_at "sget"))
    | ((with_reducible apply o_getL); (focus walk_at "sget"))
    | ((with_reducible apply o_lenR); (focus walk_at "sget"))
    | ((with_reducible apply o_idxR); (focus walk_at "sget"); (focus first | exact at0 _ _ | exact at1 _ _ _ | exact at2 _ _ _ _))
    | ((with_reducible apply o_tupR); (focus walk_at "sget"))
    | ((with_reducible apply o_listR); (focus walk_at "sget"))
    | ((with_reducible refine o_mod ?_ ?_); (focus omega))
    | ((with_reducible refine o_div ?_ ?_); (focus omega))
    | ((with_reducible refine o_pow ?_ ?_); (focus decide))
    | ((with_reducible refine o_app ?_ ?_); (focus walk_at "len"))
    | walk_at "f")
  | with_reducible first | refine b_is ?_ | refine i_is ?_ | refine s_is ?_ | refine Br.tt ?_ | refine Br.ff ?_ | refine Br.nf ?_ | refine Br.nt ?_ | refine lnew ?_ | refine il_none ?_ | refine il_some ?_ | refine revT ?_ | refine slcT ?_ | refine slcS ?_
  | ((with_reducible refine Br.of_tt ?_ ?_); focus (first | assumption | rfl | exact beq_self_eq_true _ | (simp only [decide_eq_true_eq]; omega)))
  | ((with_reducible refine Br.of_ff ?_ ?_); focus (first | assumption | rfl | (rw [beq_self_eq_true]; rfl) | (simp only [decide_eq_false_iff_not]; omega)))
  | ((with_reducible refine And.intro ?_ ?_); (focus first | ((with_reducible show _ ≤ sizeLine); walk_at "len") | ((with_reducible show lkOk _ _); walk_at "sget")))
  | ((with_reducible refine seek_nx ?_ ?_); (focus rfl); walk_at "off") | ((with_reducible refine seek_cnt ?_ ?_); (focus rfl); walk_at "off") | ((with_reducible refine seek_ret ?_); focus rfl))
local macro_rules | `(tactic| walk_at "b") => `(tactic| with_reducible first | refine b_is ?_ | refine Br.tt ?_ | refine Br.ff ?_ | refine Br.nf ?_ | refine Br.nt ?_ | refine tr_bl ?_)
local macro_rules | `(tactic| walk_at "y") => `(tactic| (fail_if_success (with_reducible refine s_if ?_)); walk_at "x")
local macro_rules | `(tactic| walk_at "f") => `(tactic| with_reducible first | refine w_iEn ?_ | refine w_iZp ?_ | refine zs_two ?_ | refine en_tup ?_ | refine en_frl ?_ | refine z_tup ?_ | refine i_frl ?_ | refine w_revT ?_)
noncomputable def bLMore : TSt := (sSeq (sSet 2 (vApp (fnV 2 4 bTake) (vsCons (vVar 0) (vsCons (vC (.int 6)) vsNil)))) (sSeq (sSet 3 (vApp (fnV 2 4 bTake) (vsCons (vVar 0) (vsCons (vC (.int 2)) vsNil)))) (sSeq (sSet 4 (vTup (vsCons (vBin oIdx (vVar 1) (vC (.int 0))) (vsCons (vC (.bl true)) (vsCons (vTup (vsCons (vTup (vsCons (vBin oIdx (vVar 1) (vC (.int 1))) (vsCons (vTup (vsCons (vTup (vsCons (vBin oIdx (vVar 1) (vC (.int 2))) (vsCons (vBin oIdx (vVar 1) (vC (.int 0))) (vsCons (vC .non) vsNil)))) vsNil)) vsNil))) vsNil)) vsNil))))) (sSeq (sIf (bBl (vBin oEq (vVar 2) (vC (.int 0)))) (sSeq (sRet (vTup (vsCons (vBin oIdx (vVar 1) (vVar 3)) (vsCons (vCallL (fun xs => some (.tup xs)) (lComp (tgN 8) (iL (lSlc (vVar 1) oNone (oSome (vBin oAdd (vC (.int 8)) (vVar 3))))) bYes (vTup (vsCons (vVar 8) (vsCons (vC (.bl true)) (vsCons (vTup vsNil) vsNil)))) [8])) vsNil)))) sNil) sNil) (sSeq (sIf (bBl (vBin oEq (vVar 2) (vC (.int 1)))) (sSeq (sSet 5 (vCallL (fun xs => some (.tup xs)) (lComp (tgN 8) (iL (lSlc (vVar 1) oNone (oSome (vBin oAdd (vC (.int 8)) (vVar 3))))) bYes (vTup (vsCons (vVar 8) (vsCons (vTup (vsCons (vTup (vsCons (vBin oIdx (vVar 1) (vC (.int 3))) (vsCons (vC .non) (vsCons (vC .non) vsNil)))) vsNil)) vsNil))) [8]))) (sSeq (sRet (vTup (vsCons (vBin oIdx (vVar 1) (vVar 3)) (vsCons (vTup (vsCons (vVar 4) (vsCons (vTup (vsCons (vBin oIdx (vVar 1) (vC (.int 5))) (vsCons (vC (.bl false)) (vsCons (vVar 5) vsNil)))) vsNil))) vsNil)))) sNil)) sNil) (sSeq (sIf (bBl (vBin oEq (vVar 2) (vC (.int 2)))) (sSeq (sSet 6 (vCallL (fun xs => some (.tup xs)) (lComp (tgN 8) (iL (lSlc (vVar 1) oNone (oSome (vBin oAdd (vC (.int 6)) (vVar 3))))) bYes (vTup (vsCons (vVar 8) (vsCons (vBin oIdx (vVar 1) (vC (.int 0))) (vsCons (vC .non) vsNil)))) [8]))) (sSeq (sRet (vTup (vsCons (vBin oIdx (vVar 1) (vVar 3)) (vsCons (vTup (vsCons (vVar 4) (vsCons (vTup (vsCons (vBin oIdx (vVar 1) (vC (.int 5))) (vsCons (vC (.bl false)) (vsCons (vTup (vsCons (vTup (vsCons (vBin oIdx (vVar 1) (vC (.int 4))) (vsCons (vVar 6) vsNil))) vsNil)) vsNil)))) vsNil))) vsNil)))) sNil)) sNil) (sSeq (sIf (bBl (vBin oEq (vVar 2) (vC (.int 3)))) (sSeq (sSet 7 (vTup (vsCons (vBin oIdx (vVar 1) (vC (.int 2))) (vsCons (vBin oIdx (vVar 1) (vBin oIdx (vNew (lDisp (vsCons (vC (.int 0)) (vsCons (vC (.int 3)) vsNil)))) (vVar 3))) (vsCons (vBin oIdx (vVar 1) (vC (.int 7))) vsNil))))) (sSeq (sRet (vTup (vsCons (vBin oIdx (vVar 1) (vC (.int 2))) (vsCons (vTup (vsCons (vTup (vsCons (vBin oIdx (vVar 1) (vC (.int 0))) (vsCons (vC (.bl true)) (vsCons (vTup (vsCons (vTup (vsCons (vBin oIdx (vVar 1) (vC (.int 1))) (vsCons (vTup (vsCons (vVar 7) vsNil)) vsNil))) vsNil)) vsNil)))) vsNil)) vsNil)))) sNil)) sNil) (sSeq (sIf (bBl (vBin oEq (vVar 2) (vC (.int 4)))) (sSeq (sRet (vTup (vsCons (vBin oIdx (vVar 1) (vC (.int 2))) (vsCons (vTup (vsCons (vVar 4) (vsCons (vTup (vsCons (vBin oIdx (vVar 1) (vBin oIdx (vNew (lDisp (vsCons (vC (.int 1)) (vsCons (vC (.int 0)) vsNil)))) (vVar 3))) (vsCons (vC (.bl false)) (vsCons (vTup vsNil) vsNil)))) vsNil))) vsNil)))) sNil) sNil) (sSeq (sRet (vTup (vsCons (vBin oIdx (vVar 1) (vC (.int 3))) (vsCons (vSlc (vTup (vsCons (vVar 4) vsNil)) (oSome (vVar 3)) oNone) vsNil)))) sNil)))))))))
local macro_rules | `(tactic| walk_at "f") => `(tactic| ((with_reducible apply o_idxR); (focus walk_at "sget"); (focus first | exact atI_nat (j := 0) rfl | exact atI_nat (j := 1) rfl | exact atI_nat (j := 2) rfl | exact atI_nat (j := 3) rfl | exact atI_nat (j := 4) rfl | exact atI_nat (j := 5) rfl | exact atI_nat (j := 6) rfl | exact atI_nat (j := 7) rfl)))
local macro_rules | `(tactic| walk_at "fr") => `(tactic| first | assumption | (refine Fr.kp ?_ (Kp.app _ _); walk_at "fr"))
local macro_rules | `(tactic| walk_at "ld") => `(tactic| first | assumption | (refine AllLD.one ?_ rfl; walk_at "ld"))
theorem len12 {ws : List Str} (h : ws.length = 12) : ∃ a b c d e f g h i j k l, ws = [a, b, c, d, e, f, g, h, i, j, k, l] := by
  match ws, h with
  | [a, b, c, d, e, f, g, h, i, j, k, l], _ => exact ⟨a, b, c, d, e, f, g, h, i, j, k, l, rfl⟩
def wOks (n m : Nat) (ys : List PV) : Prop := ∀ y ∈ ys, wOk n m y
theorem wOks_nil {n m : Nat} : wOks n m [] := fun _ h => by cases h
theorem wOks_cons {n m : Nat} {y : PV} {ys : List PV} (h : wOk n m y) (t : wOks n m ys) : wOks n m (y :: ys) := fun z hz => by
  rcases List.mem_cons.mp hz with rfl | hz
  · exact h
  · exact t z hz
theorem wOks_cut {n m : Nat} {ys : List PV} {l h : Option Int} (g : wOks n m ys) : wOks n m (cutL ys l h) := fun y hy => g y (cutL_mem hy)
theorem wOk_lit {n m : Nat} {ys : List PV} (hl : Nat.ble ys.length n = true) (h : wOks n m ys) : wOk n m (.tup ys) := wOk_tup.mpr ⟨Nat.le_of_ble_eq_true hl, h⟩
theorem wOk_str (n m : Nat) (z : Str) : wOk n m (.str z) := ⟨rfl, by simp [wid]⟩
theorem wOk_bl (n m : Nat) (z : Bool) : wOk n m (.bl z) := ⟨rfl, by simp [wid]⟩
theorem wOk_non (n m : Nat) : wOk n m .non := ⟨rfl, by simp [wid]⟩
theorem wOk_int (n m : Nat) (z : Int) : wOk n m (.int z) := ⟨rfl, by simp [wid]⟩
theorem wOk_cut {n m : Nat} {ws : List Str} {l h : Option Int} {f : Str → PV} (hl : Nat.ble ws.length n = true) (g : ∀ o, wOk n m (f o)) : wOk n m (.tup ((cutL ws l h).map f)) :=
  wOk_tup.mpr ⟨by rw [List.length_map]; exact Nat.le_trans (cutL_len _ _ _) (Nat.le_of_ble_eq_true hl), fun y hy => by obtain ⟨o, ho, rfl⟩ := List.mem_map.mp hy; exact g o⟩
local macro_rules | `(tactic| walk_at "wk") => `(tactic| repeat first | with_reducible exact wOk_str _ _ _ | with_reducible exact wOk_bl _ _ _ | with_reducible exact wOk_non _ _ | with_reducible exact wOks_nil | with_reducible refine wOks_cons ?_ ?_ | ((with_reducible refine wOk_cut ?_ (fun _ => ?_)); (focus rfl)) | ((with_reducible refine wOk_lit ?_ ?_); (focus rfl)))
section
variable {Q : PV → Store → Prop} {E : PX → Store → Prop} {S0 : Store}
theorem more_w {i j : Nat} {ws : List Str} (hw : HasW i S0) (hj : j ≠ i) (hn : S0[j]? = some (.lst (ws.map .str))) (hl : ws.length = 12) (ld : AllLD S0)
    (q : ∀ (v : PV) (U : Store), Fr isWell i S0 U → AllLD U → wOk 12 U.length v → Q v U) : W (fnV 2 9 bLMore [.ref i, .ref j] S0) Q E := by
  refine w_fn rfl ?_
  show WS (bLMore [some (.ref i), some (.ref j), none, none, none, none, none, none, none] S0) _
  unfold bLMore
  have hi := hw.lt
  have big := sizeLine_eq
  repeat walk_at "x"
  refine take_w hw (by omega) fun way T F u w0 w1 => ?_
  repeat walk_at "x"
  refine take_w F.own (by omega) fun r U F2 u2 r0 r1 => ?_
  have F3 := F.trans F2
  have ldU := (ld.fr F u).fr F2 u2
  have hU := F3.of hn hj
  have hc : ∀ l h, (cutL ws l h).length ≤ 12 := fun l h => by have := cutL_len ws l h; omega
  have ret : ∀ (v : PV) (X : Store), Fr isWell i S0 X → AllLD X → wOk 12 X.length v → W (gcV S0 v X) Q E := fun v X F l h =>
    ret_good hi F l h.1 fun v' U' F' l' h' w' => q v' U' F' l' ⟨h', by have := h.2; omega⟩
  have hws := hl
  generalize hww : ws = ws2 at hU hc
  obtain ⟨a0, a1, a2, a3, a4, a5, a6, a7, a8, a9, a10, a11, rfl⟩ := len12 hl
  subst hww
  have hr : r = 0 ∨ r = 1 := by omega
  repeat walk_at "x"
  by_cases c0 : way = 0
  · refine Br.of_tt (by simp [c0]) ?_
    rcases hr with rfl | rfl
    all_goals
      repeat walk_at "x"
      refine lslcR hU ?_
      rw [cutL_map]
      repeat walk_at "x"
      walk_at "e"
      refine w_pureA (fun z : Str => .tup [.str z, .bl true, .tup []]) trivial (fun z _ => ?_) ?_
      · repeat walk_at "x"
        exact ⟨rfl, rfl⟩
      refine Op.of (x := .tup _) rfl ?_
      repeat walk_at "x"
      refine ret _ _ ?_ ?_ ?_
      · walk_at "fr"
      · walk_at "ld"
      walk_at "wk"
  refine Br.of_ff (by simp [c0]) ?_
  repeat walk_at "x"
  by_cases c1 : way = 1
  · refine Br.of_tt (by simp [c1]) ?_
    rcases hr with rfl | rfl
    all_goals
      repeat walk_at "x"
      refine lslcR hU ?_
      rw [cutL_map]
      repeat walk_at "x"
      walk_at "e"
      refine w_pureA (fun z : Str => .tup [.str z, .tup [.tup [.str a3, .non, .non]]]) trivial (fun z _ => ?_) ?_
      · repeat walk_at "x"
        exact ⟨rfl, rfl⟩
      refine Op.of (x := .tup _) rfl ?_
      repeat walk_at "x"
      refine ret _ _ ?_ ?_ ?_
      · walk_at "fr"
      · walk_at "ld"
      walk_at "wk"
  refine Br.of_ff (by simp [c1]) ?_
  repeat walk_at "x"
  by_cases c2 : way = 2
  · refine Br.of_tt (by simp [c2]) ?_
    rcases hr with rfl | rfl
    all_goals
      repeat walk_at "x"
      refine lslcR hU ?_
      rw [cutL_map]
      repeat walk_at "x"
      walk_at "e"
      refine w_pureA (fun z : Str => .tup [.str z, .str a0, .non]) trivial (fun z _ => ?_) ?_
      · repeat walk_at "x"
        exact ⟨rfl, rfl⟩
      refine Op.of (x := .tup _) rfl ?_
      repeat walk_at "x"
      refine ret _ _ ?_ ?_ ?_
      · walk_at "fr"
      · walk_at "ld"
      walk_at "wk"
  refine Br.of_ff (by simp [c2]) ?_
  repeat walk_at "x"
  by_cases c3 : way = 3
  · refine Br.of_tt (by simp [c3]) ?_
    have hU2 := get_app_lt (J := [PObj.lst [PV.int 0, .int 3]]) hU
    rcases hr with rfl | rfl
    all_goals
      repeat walk_at "x"
      refine ret _ _ ?_ ?_ ?_
      · walk_at "fr"
      · walk_at "ld"
      walk_at "wk"
  refine Br.of_ff (by simp [c3]) ?_
  repeat walk_at "x"
  by_cases c4 : way = 4
  · refine Br.of_tt (by simp [c4]) ?_
    have hU2 := get_app_lt (J := [PObj.lst [PV.int 1, .int 0]]) hU
    rcases hr with rfl | rfl
    all_goals
      repeat walk_at "x"
      refine ret _ _ ?_ ?_ ?_
      · walk_at "fr"
      · walk_at "ld"
      walk_at "wk"
  refine Br.of_ff (by simp [c4]) ?_
  rcases hr with rfl | rfl
  all_goals
    repeat walk_at "x"
    refine ret _ _ ?_ ?_ ?_
    · walk_at "fr"
    · walk_at "ld"
    walk_at "wk"
    refine wOks_cut ?_
    walk_at "wk"
end
end Ev

/-! Fw48 -/
namespace Ev
open PySem PySem.Spec PyProof.Rows L2 SX
local macro_rules | `(tactic| walk_at "w") => `(tactic| first
  | (with_reducible apply s_set; focus (repeat first | exact SetR.zero | apply SetR.succ))
  | (with_reducible apply w_get; focus (repeat first | exact GetR.zero | apply GetR.succ))
  | with_reducible first
  | refine s_seqN ?_ | refine s_seq ?_ | refine q_nx ?_ | refine q_ret ?_ | refine q_brk ?_ | refine q_cnt ?_ | refine q_exc ?_
  | refine s_nil ?_ | refine s_pass ?_ | refine s_brk ?_ | refine s_cnt ?_ | refine s_expr ?_ | refine s_ret ?_ | refine s_retN ?_ | refine s_if ?_ | refine s_unp ?_ | refine s_sub ?_ | refine s_for ?_
  | refine w_c ?_ | (refine w_str ?_ ?_; decide +kernel) | refine w_bin ?_ | refine w_un ?_ | refine w_chn ?_ | refine w_bV ?_ | refine w_bBl ?_ | refine w_bAnd ?_ | refine w_bOr ?_ | refine w_bNot ?_ | refine w_bYes ?_
  | refine w_vAnd ?_ | refine w_vOr ?_ | refine w_vNot ?_ | refine w_vIf ?_ | refine w_nil ?_ | refine w_cons ?_ | refine w_tup ?_ | refine w_disp ?_ | refine w_new ?_ | refine lnew ?_ | refine w_oNone ?_ | refine w_oSome ?_ | refine w_slc ?_ | refine w_lslc ?_ | refine slcT ?_ | refine slcS ?_
  | refine w_call ?_ | refine w_callL ?_ | refine w_lcallL ?_ | refine w_lcallN ?_ | refine w_isi ?_ | refine w_app ?_ | refine w_app0 ?_ | refine w_lval ?_ | refine w_cat ?_ | refine w_eqL ?_ | refine w_lm ?_ | refine w_ext ?_ | refine w_sm ?_ | refine w_sm0 ?_ | refine w_lsm ?_ | refine w_smL ?_ | refine w_dic0 ?_ | refine w_dic1 ?_ | refine w_iV ?_ | refine w_iL ?_ | refine il_none ?_ | refine il_some ?_ | refine w_rng ?_ | refine w_comp ?_ | refine w_rev ?_ | refine w_lenSet ?_ | refine w_extV ?_
  | refine o_addI ?_ | refine o_iadd ?_ | refine o_sub ?_ | refine o_neg ?_ | refine o_ltI ?_ | refine o_le ?_ | refine o_gt ?_ | refine o_ge ?_ | refine o_is ?_ | refine o_isNot ?_ | refine o_lenT ?_ | refine o_lenF ?_ | refine o_lenS ?_ | refine o_intB ?_ | refine o_intI ?_ | refine o_max ?_ | refine o_min ?_ | refine o_tupT ?_ | refine o_eqI ?_ | refine o_eqS ?_ | refine o_eqB ?_
  | refine b_is ?_ | refine i_is ?_ | refine s_is ?_ | refine i_tup ?_ | refine i_str ?_ | refine tr_bl ?_ | refine ty_bl ?_ | refine ty_str ?_ | refine ty_tup ?_ | refine ty_int ?_ | refine k_s ?_ | refine k_i ?_
  | refine Br.tt ?_ | refine Br.ff ?_ | refine Br.nf ?_ | refine Br.nt ?_ | refine f_ret ?_ | refine f_nx ?_ | refine f_body ?_)
local macro_rules | `(tactic| walk_at "sget") => `(tactic| first
  | assumption | exact get_app _ _ _ | exact trivial
  | (refine get_set ?_; walk_at "sget") | (refine get_app_lt ?_; walk_at "sget"))
local macro_rules | `(tactic| walk_at "len") => `(tactic| first
  | exact Nat.zero_le _ | exact len_le rfl
  | (have hbig := sizeLine_eq; simp only [List.length_map, List.length_cons, List.length_nil, List.length_append, List.length_take, List.length_drop, List.length_reverse, List.length_set, List.length_range]; omega))
local macro_rules | `(tactic| walk_at "off") => `(tactic| focus rfl)
local macro_rules | `(tactic| walk_at "e") => `(tactic| simp only [wipeE, reset, List.foldl_cons, List.foldl_nil, List.set_cons_succ, List.set_cons_zero])
local macro_rules | `(tactic| walk_at "kp") => `(tactic| first | assumption | exact Kp.refl _ | exact Kp.app _ _ | (refine Kp.trans ?_ (Kp.app _ _); walk_at "kp"))
local macro_rules | `(tactic| walk_at "set") => `(tactic| first | exact setR0 | exact setR1 | exact setR2 | exact setR3 | exact setR4 | exact setR5 | exact setR6 | exact setR7 | exact setR8 | exact setR9 | exact setR10 | exact setR11 | exact setR12 | (repeat first | exact SetR.zero | apply SetR.succ))
local macro_rules | `(tactic| walk_at "f") => `(tactic| fail)
local macro_rules | `(tactic| walk_at "x") => `(tactic| first
  | ((with_reducible show W _ _ _); first
    | ((with_reducible apply w_var); (focus exact rfl))
    | with_reducible first | refine w_c ?_ | refine w_cons ?_ | refine w_nil ?_ | refine w_bin ?_ | refine w_app ?_ | refine w_call ?_ | refine w_tup ?_ | refine w_bBl ?_ | refine w_new ?_ | refine w_iV ?_ | refine w_comp ?_ | refine w_iL ?_ | refine w_bV ?_ | refine w_disp ?_ | refine w_vAnd ?_ | refine w_vOr ?_ | refine w_bAnd ?_ | refine w_bOr ?_ | refine w_bNot ?_ | refine w_bYes ?_ | refine w_isi ?_ | refine w_callL ?_ | refine w_lval ?_ | refine w_lm ?_ | refine w_chn ?_ | refine w_un ?_ | refine w_oNone ?_ | refine w_oSome ?_ | refine w_slc ?_ | refine w_lslc ?_ | refine w_rng ?_ | refine w_vNot ?_ | refine w_vIf ?_ | refine w_cat ?_ | refine w_eqL ?_ | refine w_lenSet ?_ | refine w_app0 ?_ | refine w_extV ?_ | refine w_ext ?_ | refine w_lcallL ?_ | refine w_lcallN ?_ | refine w_sm ?_ | refine w_sm0 ?_ | refine w_lsm ?_ | refine w_smL ?_ | refine w_dic0 ?_ | refine w_dic1 ?_ | refine w_rev ?_ | refine f_ret ?_ | refine f_nx ?_
    | ((with_reducible refine g_keep ?_ ?_ ?_); (focus walk_at "kp"); (focus rfl))
    | (with_reducible refine w_str ?_ ?_; decide +kernel)
    | walk_at "f"
    | with_reducible refine f_body ?_)
  | ((with_reducible show WS _ _); first
    | with_reducible first | refine s_seqN ?_ | refine s_seq ?_ | refine q_nx ?_
    | ((with_reducible apply s_set); (focus walk_at "set"))
    | with_reducible first | refine s_expr ?_ | refine s_ret ?_ | refine s_if ?_ | refine s_nil ?_ | refine q_ret ?_ | refine s_unp ?_ | refine s_sub ?_ | refine s_for ?_ | refine q_cnt ?_ | refine q_brk ?_ | refine q_exc ?_ | refine s_retN ?_ | refine s_cnt ?_ | refine s_brk ?_ | refine s_pass ?_)
  | ((with_reducible show Op _ _); first
    | ((with_reducible apply t_n); (focus walk_at "set"))
    | with_reducible first
      | refine t_cons ?_ | refine t_nil ?_ | refine t_tup ?_ | refine i_tup ?_
      | refine o_lenT ?_
      | refine o_eqS ?_ | refine o_eqI ?_ | refine o_eqB ?_ | refine o_neI ?_ | refine o_neS ?_ | refine o_neB ?_ | refine o_is ?_ | refine o_isNot ?_ | refine o_isT ?_ | refine o_isNT ?_ | refine o_isF ?_ | refine o_isNF ?_
      | refine o_addI ?_ | refine o_sub ?_ | refine o_neg ?_ | refine o_ltI ?_ | refine o_le ?_ | refine o_gt ?_ | refine o_ge ?_ | refine o_iadd ?_
      | refine tr_bl ?_ | refine ty_bl ?_ | refine ty_str ?_ | refine ty_tup ?_ | refine ty_int ?_ | refine o_tupT ?_
      | refine o_lenF ?_ | refine o_lenS ?_ | refine o_intB ?_ | refine o_intI ?_ | refine o_max ?_ | refine o_min ?_ | refine i_str ?_ | refine k_s ?_ | refine k_i ?_
    | ((with_reducible apply o_idxT); (focus first | exact at0 _ _ | exact at1 _ _ _ | exact at2 _ _ _ _ | exact at3 _ _ _ _ _))
    | ((with_reducible apply i_ref); (focus walk_at "sget"))
    | ((with_reducible apply o_getL); (focus walk_at "sget"))
    | ((with_reducible apply o_lenR); (focus walk_at "sget"))
    | ((with_reducible apply o_idxR); (focus walk_at "sget"); (focus first | exact at0 _ _ | exact at1 _ _ _ | exact at2 _ _ _ _))
    | ((with_reducible apply o_tupR); (focus walk_at "sget"))
    | ((with_reducible apply o_listR); (focus walk_at "sget"))
    | ((with_reducible refine o_mod ?_ ?_); (focus omega))
    | ((with_reducible refine o_div ?_ ?_); (focus omega))
    | ((with_reducible refine o_pow ?_ ?_); (focus decide))
    | ((with_reducible refine o_app ?_ ?_); (focus walk_at "len"))
    | walk_at "f")
  | with_reducible first | refine b_is ?_ | refine i_is ?_ | refine s_is ?_ | refine Br.tt ?_ | refine Br.ff ?_ | refine Br.nf ?_ | refine Br.nt ?_ | refine lnew ?_ | refine il_none ?_ | refine il_some ?_ | refine revT ?_ | refine slcT ?_ | refine slcS ?_
  | ((with_reducible refine Br.of_tt ?_ ?_); focus (first | assumption | rfl | exact beq_self_eq_true _ | (simp only [decide_eq_true_eq]; omega)))
  | ((with_reducible refine Br.of_ff ?_ ?_); focus (first | assumption | rfl | (rw [beq_self_eq_true]; rfl) | (simp only [decide_eq_false_iff_not]; omega)))
  | ((with_reducible refine And.intro ?_ ?_); (focus first | ((with_reducible show _ ≤ sizeLine); walk_at "len") | ((with_reducible show lkOk _ _); walk_at "sget")))
  | ((with_reducible refine seek_nx ?_ ?_); (focus rfl); walk_at "off") | ((with_reducible refine seek_cnt ?_ ?_); (focus rfl); walk_at "off") | ((with_reducible refine seek_ret ?_); focus rfl))
local macro_rules | `(tactic| walk_at "b") => `(tactic| with_reducible first | refine b_is ?_ | refine Br.tt ?_ | refine Br.ff ?_ | refine Br.nf ?_ | refine Br.nt ?_ | refine tr_bl ?_)
local macro_rules | `(tactic| walk_at "y") => `(tactic| (fail_if_success (with_reducible refine s_if ?_)); walk_at "x")
local macro_rules | `(tactic| walk_at "f") => `(tactic| with_reducible first | refine w_iEn ?_ | refine w_iZp ?_ | refine zs_two ?_ | refine en_tup ?_ | refine en_frl ?_ | refine z_tup ?_ | refine i_frl ?_ | refine w_revT ?_)
noncomputable def bLaw02 : TSt := (sSeq (sSet 1 (vApp (fnV 2 3 bWell) (vsCons (vVar 0) (vsCons (vC (.int 0)) vsNil)))) (sSeq (sSet 2 (vApp (fnV 2 14 bNames) (vsCons (vVar 1) (vsCons (vC (.int 12)) vsNil)))) (sSeq (sSet 3 (vApp (fnV 5 10 bKind) (vsCons (vVar 1) (vsCons (vVar 2) (vsCons (vBin oIdx (vVar 2) (vApp (fnV 2 4 bTake) (vsCons (vVar 1) (vsCons (vC (.int 12)) vsNil)))) (vsCons (vNew (lSlc (vVar 2) oNone (oSome (vC (.int 3))))) (vsCons (vC (.int 90)) vsNil))))))) (sSeq (sIf (bOr (bNot (bV (vApp (fnV 1 8 bLIsKind) (vsCons (vVar 3) vsNil)))) (bBl (vBin oIsNotB (vApp (fnV 1 8 bIsKind) (vsCons (vVar 3) vsNil)) (vC (.bl true))))) (sSeq (sRet (vC (.bl false))) sNil) sNil) (sSeq (sSet 4 (vVar 3)) (sSeq (sFor (tgN 5) (iRng (vsCons (vC (.int 1)) (vsCons (vCall fMax (vsCons (vC (.int 4)) (vsCons (vCall fMin (vsCons (vCall fLen (vsCons (vVar 0) vsNil)) (vsCons (vC (.int 15)) vsNil))) vsNil))) vsNil))) (sSeq (sSet 1 (vApp (fnV 2 3 bWell) (vsCons (vVar 0) (vsCons (vVar 5) vsNil)))) (sSeq (sIf (bOr (bBl (vBin oGt (vApp (fnV 2 4 bTake) (vsCons (vVar 1) (vsCons (vC (.int 3)) vsNil))) (vC (.int 0)))) (bNot (bV (vIsi "tuple" (vVar 4))))) (sSeq (sSet 4 (vVar 3)) sNil) sNil) (sSeq (sIf (bBl (vBin oEq (vApp (fnV 2 4 bTake) (vsCons (vVar 1) (vsCons (vC (.int 5)) vsNil))) (vC (.int 0)))) (sSeq (sSet 4 (vApp (fnV 2 9 bLMore) (vsCons (vVar 1) (vsCons (vVar 2) vsNil)))) sNil) (sSeq (sSet 4 (vApp (fnV 4 9 bLSpoilt) (vsCons (vVar 1) (vsCons (vVar 4) (vsCons (vVar 2) (vsCons (vBin oAdd (vC (.int 1)) (vApp (fnV 2 4 bTake) (vsCons (vVar 1) (vsCons (vC (.int 8)) vsNil)))) vsNil)))))) sNil)) (sSeq (sFor (tgN 6) (iRng (vsCons (vC (.int 2)) vsNil)) (sSeq (sSet 7 (vApp (fnV 1 8 bIsKind) (vsCons (vVar 4) vsNil))) (sSeq (sIf (bOr (bNot (bV (vIsi "bool" (vVar 7)))) (bBl (vBin oNe (vVar 7) (vApp (fnV 1 8 bLIsKind) (vsCons (vVar 4) vsNil))))) (sSeq (sRet (vC (.bl false))) sNil) sNil) sNil))) sNil))))) (sSeq (sRet (vBin oIsB (vApp (fnV 1 8 bIsKind) (vsCons (vVar 3) vsNil)) (vC (.bl true)))) sNil)))))))
section
variable {Q : PV → Store → Prop} {E : PX → Store → Prop} {S0 : Store}
theorem wOk_kind (n m : Nat) (k : Kind) (ws ks : List Str) (h : kindOk ws ks k) (n9 : 8 ≤ n) : wOk n m (eKd k) := by
  refine ⟨low_Kd _ _, ?_⟩
  have o : ∀ o : Out, wid (eOut o) ≤ n := fun o => by
    obtain ⟨a, b, c⟩ := o
    cases b <;> cases c <;> (simp [eOut, wid, wids, eO]; omega)
  refine wid_tup.mpr ⟨by simp; omega, fun y hy => ?_⟩
  simp only [List.mem_cons, List.not_mem_nil, or_false] at hy
  rcases hy with rfl | rfl
  · simp [wid]
  refine wid_tup.mpr ⟨by rw [List.length_map]; exact Nat.le_trans h.le n9, fun y hy => ?_⟩
  obtain ⟨s, hs, rfl⟩ := List.mem_map.mp hy
  obtain ⟨_, sl, _, sd⟩ := h.st s hs
  refine wid_tup.mpr ⟨by simp; omega, fun y hy => ?_⟩
  simp only [List.mem_cons, List.not_mem_nil, or_false] at hy
  rcases hy with rfl | rfl | rfl
  · simp [wid]
  · simp [wid]
  refine wid_tup.mpr ⟨by rw [List.length_map]; exact Nat.le_trans sl n9, fun y hy => ?_⟩
  obtain ⟨d, hd, rfl⟩ := List.mem_map.mp hy
  obtain ⟨_, _, dl, _⟩ := sd d hd
  refine wid_tup.mpr ⟨by simp; omega, fun y hy => ?_⟩
  simp only [List.mem_cons, List.not_mem_nil, or_false] at hy
  rcases hy with rfl | rfl
  · simp [wid]
  refine wid_tup.mpr ⟨by rw [List.length_map]; omega, fun y hy => ?_⟩
  obtain ⟨u, hu, rfl⟩ := List.mem_map.mp hy
  exact o u
theorem law02_w {ns : List Int} (q : ∀ U, Q (.bl true) U) : W (fnV 1 8 bLaw02 [.frl (ns.map .int)] []) Q E := by
  refine w_fn rfl ?_
  show WS (bLaw02 [some (.frl (ns.map .int)), none, none, none, none, none, none, none] []) _
  unfold bLaw02
  have big := sizeLine_eq
  repeat walk_at "x"
  refine well_w ⟨by omega, by omega⟩ fun o ho => ?_
  have hw : HasW 0 ([] ++ [o]) := ⟨o, rfl, ho⟩
  repeat walk_at "x"
  refine names_w2 hw fun ws U F1 u1 hU hl hg hnd hbar => ?_
  have hj : (1 : Nat) ≠ 0 := by omega
  have hU1 : U[1]? = some (.lst (ws.map .str)) := hU
  have an : allN ws := fun z hz => nm_good (hg z hz) (hbar z hz)
  have ldU : AllLD U := by
    intro u hu
    obtain ⟨k, hk⟩ := List.mem_iff_getElem?.mp hu
    have kl := lt_of_get hk
    simp at u1
    have : k = 0 ∨ k = 1 := by omega
    rcases this with rfl | rfl
    · obtain ⟨o', h', w⟩ := F1.own
      have h' : U[0]? = some o' := h'
      rw [hk] at h'; cases h'; exact w.ld
    · rw [hU1] at hk; cases hk; rfl
  repeat walk_at "x"
  refine take_w F1.own (by omega) fun r U2 F2 u2 r0 r1 => ?_
  obtain ⟨z, hz, hzm⟩ := atI_ex (xs := ws) (k := r) r0 (by omega)
  have hU2 := F2.of hU1 hj
  refine o_idxR hU2 (y := .str z) (by rw [atI_map, hz]; rfl) ?_
  repeat walk_at "x"
  refine lslcR hU2 ?_
  rw [cutL_map]
  repeat walk_at "x"
  have F3 : Fr isWell 0 U2 (U2 ++ [PObj.lst ((cutL ws none (some 3)).map .str)]) := (Kp.app _ _).fr F2.own
  have ul : 2 ≤ U2.length := by rw [u2, u1]; simp
  have ld2 : AllLD (U2 ++ [PObj.lst ((cutL ws none (some 3)).map .str)]) := (ldU.fr F2 u2).one rfl
  refine kind_w (ws := ws) (ks := cutL ws none (some 3)) (by omega) hj (show U2.length ≠ 0 by omega) F3.own (F3.of hU2 hj) hl hnd (get_app _ _ _) (by have := cutL_len ws none (some 3); omega) fun sts U3 ne snd sok sl F4 u4 => ?_
  have ld3 := ld2.fr F4 u4
  have hU3 := F4.of (F3.of hU2 hj) hj
  have ok : kindOk ws (cutL ws none (some 3)) (z, sts) := ⟨hzm, ne, sl, snd, sok⟩
  have ak : allN (cutL ws none (some 3)) := fun y hy => an y (cutL_mem hy)
  have isK : sKind (eK z sts) = true := kind_ok an ak ok
  have tK : ∀ S, tyD S (eK z sts) := fun S => tyD_dat S _ (dat_K z sts)
  have ul3 : 2 ≤ U3.length := by rw [u4]; simp; omega
  repeat walk_at "x"
  refine L_is_kind_w (tK _) ?_
  rw [isK]
  repeat walk_at "x"
  refine is_kind_w (tK _) ?_
  rw [isK]
  repeat walk_at "x"
  refine rng2 ⟨by omega, by omega, by split <;> (split <;> omega), by split <;> (split <;> omega), by split <;> (split <;> omega)⟩ ?_
  refine s_loop (fun rest ρ T => (∀ x ∈ rest, ∃ k : Nat, x = .int (k : Int) ∧ k ≤ 1000) ∧ rest.length ≤ 100 ∧ AllLD T ∧ T[1]? = some (.lst (ws.map .str)) ∧ ∃ (a : Nat) (v : PV) (e5 e6 e7 : Option PV), a ≠ 1 ∧ wOk (200 - rest.length) T.length v ∧ ρ = [some (.frl (ns.map .int)), some (.ref a), some (.ref 1), some (eK z sts), some v, e5, e6, e7])
    ⟨fun x hx => ?_, ?_, ld3, hU3, 0, _, none, none, none, by omega, ?_, rfl⟩ (fun x rest ρ T h => ?_) (fun ρ T h => ⟨trivial, ?_⟩)
  · unfold rangeL at hx
    obtain ⟨k, hk, rfl⟩ := List.mem_map.mp hx
    rw [List.mem_range] at hk
    refine ⟨k + 1, by simp; omega, ?_⟩
    split at hk <;> (split at hk <;> omega)
  · simp only [rangeL, List.length_map, List.length_range]
    split <;> (split <;> omega)
  · refine wOk_kind _ _ (z, sts) ws _ ok ?_
    simp only [rangeL, List.length_map, List.length_range]
    split <;> (split <;> omega)
  · obtain ⟨hx, hrl, ldT, hT, a, v, e5, e6, e7, ha, hv, rfl⟩ := h
    refine ⟨trivial, ?_⟩
    obtain ⟨k, rfl, hk⟩ := hx x (by simp)
    simp only [List.length_cons] at hrl hv
    repeat walk_at "x"
    refine well_w ⟨by omega, by omega⟩ fun o ho => ?_
    have hwT : HasW T.length (T ++ [o]) := ⟨o, get_app _ _ _, ho⟩
    have hTl := lt_of_get hT
    have ldo : AllLD (T ++ [o]) := ldT.one ho.ld
    have jT : (1 : Nat) ≠ T.length := by omega
    have hTo : (T ++ [o])[1]? = some (.lst (ws.map .str)) := get_app_lt hT
    repeat walk_at "y"
    -- which thing it starts from
    refine s_join (fun ρ V => Fr isWell T.length (T ++ [o]) V ∧ V.length = T.length + 1 ∧ ∃ v', wOk (200 - (rest.length + 1)) V.length v' ∧ ρ = [some (.frl (ns.map .int)), some (.ref T.length), some (.ref 1), some (eK z sts), some v', some (.int k), e6, e7]) ?_ fun ρ V h => ?_
    · have kk : ∀ V : Store, wOk (200 - (rest.length + 1)) V.length (eK z sts) := fun V => wOk_kind _ _ (z, sts) ws _ ok (by omega)
      repeat walk_at "x"
      refine take_w hwT (by omega) fun r V F5 u5 r50 r51 => ?_
      have u5' : V.length = T.length + 1 := by rw [u5]; simp
      repeat walk_at "x"
      refine Br.dec (fun _ => ?_) (fun _ => ?_)
      · repeat walk_at "x"
        exact ⟨F5, u5', _, kk V, rfl⟩
      · repeat walk_at "x"
        have hv' : wOk (200 - (rest.length + 1)) V.length v := hv.mono (Nat.le_refl _) (by omega)
        obtain ⟨ty, hty⟩ := (tyD_low (ldo.fr F5 u5) v hv'.1).ty
        refine Op.of hty ?_
        cases hb : isI ty "tuple"
        · repeat walk_at "x"
          exact ⟨F5, u5', _, kk V, rfl⟩
        · repeat walk_at "x"
          exact ⟨F5, u5', _, hv', rfl⟩
    · obtain ⟨F5, u5, v', hv', rfl⟩ := h
      have ldV := ldo.fr F5 (by rw [u5]; simp)
      have hV := F5.of hTo jT
      repeat walk_at "y"
      refine s_join (fun ρ X => AllLD X ∧ X[1]? = some (.lst (ws.map .str)) ∧ ∃ w, wOk (200 - rest.length) X.length w ∧ ρ = [some (.frl (ns.map .int)), some (.ref T.length), some (.ref 1), some (eK z sts), some w, some (.int k), e6, e7]) ?_ fun ρ X h => ?_
      · repeat walk_at "x"
        refine take_w F5.own (by omega) fun r X F6 u6 r60 r61 => ?_
        have ldX := ldV.fr F6 u6
        have hX := F6.of hV jT
        repeat walk_at "x"
        cases hb : r == 0
        · repeat walk_at "x"
          refine take_w F6.own (by omega) fun r7 Y F7 u7 r70 r71 => ?_
          repeat walk_at "x"
          refine spoilt_w (n := 200 - (rest.length + 1)) F7.own jT (F7.of hX jT) hl hg (ldX.fr F7 u7) (by omega) (by omega) (by omega) (hv'.mono (Nat.le_refl _) (by omega)) fun w Z F8 ld8 hw8 => ?_
          repeat walk_at "x"
          exact ⟨ld8, F8.of (F7.of hX jT) jT, w, hw8.mono (by omega) (Nat.le_refl _), rfl⟩
        · repeat walk_at "x"
          refine more_w F6.own jT hX hl ldX fun w Z F8 ld8 hw8 => ?_
          repeat walk_at "x"
          exact ⟨ld8, F8.of hX jT, w, hw8.mono (by omega) (Nat.le_refl _), rfl⟩
      · obtain ⟨ldX, hX, w, hw, rfl⟩ := h
        have tw := tyD_low ldX w hw.1
        repeat walk_at "x"
        refine rng1 ⟨by omega, by omega⟩ ?_
        refine s_loop (fun _ ρ Y => Y = X ∧ ∃ e6 e7 : Option PV, ρ = [some (.frl (ns.map .int)), some (.ref T.length), some (.ref 1), some (eK z sts), some w, some (.int k), e6, e7]) ⟨rfl, _, _, rfl⟩ (fun x r2 ρ Y h => ?_) (fun ρ Y h => ⟨trivial, ?_⟩)
        · obtain ⟨rfl, e6, e7, rfl⟩ := h
          refine ⟨trivial, ?_⟩
          repeat walk_at "x"
          refine is_kind_w tw ?_
          repeat walk_at "x"
          refine L_is_kind_w tw ?_
          repeat walk_at "x"
          exact ⟨rfl, _, _, rfl⟩
        · obtain ⟨rfl, e6, e7, rfl⟩ := h
          exact ⟨fun x h => hx x (by simp [h]), by omega, ldX, hX, T.length, w, _, _, _, by omega, hw, rfl⟩
  · obtain ⟨hx, hrl, ldT, hT, a, v, e5, e6, e7, ha, hv, rfl⟩ := h
    repeat walk_at "x"
    refine is_kind_w (tK _) ?_
    rw [isK]
    repeat walk_at "x"
    exact q _
end
end Ev

set_option maxHeartbeats 0
namespace My
open PySem PySem.Spec PyProof.Rows L2 Ev
abbrev theProg : PySem.Program := PySem.Challenge.pw_inorder_k02_what_is_a_kind
def topS (i : Nat) : Stmt := theProg.main.body.getD i (.Pass ⟨0, 0, 0, 0⟩)
/-! the constants -/
def k_TONGUE : PV := .tup [.str "make", .str "use", .str "ask", .str "call", .str "see", .str "blind", .str "move", .str "leave", .str "loop", .str "out", .str "back", .str "fit", .str "bare", .str "as", .str "kind", .str "def", .str "main", .str "rest", .str "gone"]
def k_LETTERS : PV := .str "abcdefghijklmnopqrstuvwxyz"
def k_MOST_LETTERS : PV := .int 8
def k_MOST_STATES : PV := .int 8
def k_MOST_DEEDS : PV := .int 8
def k_MOST_OUTS : PV := .int 6
/-! what each def is worth -/
abbrev Calls := Nat → FV
noncomputable def b_is_name (c : Calls) : TSt :=
  (sSeq (sIf (bOr (bNot (bV (vIsi "str" (vVar 0)))) (bOr (bNot (bBl (vChn oLe oLe (vC (.int 1)) (vCall fLen (vsCons (vVar 0) vsNil)) (vC k_MOST_LETTERS)))) (bBl (vBin oIn (vVar 0) (vC k_TONGUE))))) (sSeq (sRet (vC (.bl false))) sNil) sNil) (sSeq (sRet (vCallL fAll (lComp (tgN 1) (iV (vVar 0)) bYes (vBin oIn (vVar 1) (vC k_LETTERS)) [1]))) sNil))
noncomputable def b_are_unlike (c : Calls) : TSt :=
  (sSeq (sRet (vBin oEq (vLenSet (vVar 0)) (vCall fLen (vsCons (vVar 0) vsNil)))) sNil)
noncomputable def b_is_maybe (c : Calls) : TSt :=
  (sSeq (sRet (vOr (vBin oIs (vVar 0) (vC .non)) (vApp (c 0) (vsCons (vVar 0) vsNil)))) sNil)
noncomputable def b_is_out (c : Calls) : TSt :=
  (sSeq (sIf (bOr (bNot (bV (vIsi "tuple" (vVar 0)))) (bBl (vBin oNe (vCall fLen (vsCons (vVar 0) vsNil)) (vC (.int 3))))) (sSeq (sRet (vC (.bl false))) sNil) sNil) (sSeq (sRet (vAnd (vApp (c 0) (vsCons (vBin oIdx (vVar 0) (vC (.int 0))) vsNil)) (vAnd (vApp (c 2) (vsCons (vBin oIdx (vVar 0) (vC (.int 1))) vsNil)) (vApp (c 2) (vsCons (vBin oIdx (vVar 0) (vC (.int 2))) vsNil))))) sNil))
noncomputable def b_is_deed (c : Calls) : TSt :=
  (sSeq (sIf (bOr (bNot (bV (vIsi "tuple" (vVar 0)))) (bOr (bBl (vBin oNe (vCall fLen (vsCons (vVar 0) vsNil)) (vC (.int 2)))) (bOr (bNot (bV (vApp (c 0) (vsCons (vBin oIdx (vVar 0) (vC (.int 0))) vsNil)))) (bNot (bV (vIsi "tuple" (vBin oIdx (vVar 0) (vC (.int 1))))))))) (sSeq (sRet (vC (.bl false))) sNil) sNil) (sSeq (sIf (bOr (bNot (bBl (vChn oLe oLe (vC (.int 1)) (vCall fLen (vsCons (vBin oIdx (vVar 0) (vC (.int 1))) vsNil)) (vC k_MOST_OUTS)))) (bNot (bV (vCallL fAll (lComp (tgN 1) (iV (vBin oIdx (vVar 0) (vC (.int 1)))) bYes (vApp (c 3) (vsCons (vVar 1) vsNil)) [1]))))) (sSeq (sRet (vC (.bl false))) sNil) sNil) (sSeq (sRet (vApp (c 1) (vsCons (vNew (lComp (tgT (tgCons (tgN 2) (tgCons (tgN 3) (tgCons (tgN 4) tgNil)))) (iV (vBin oIdx (vVar 0) (vC (.int 1)))) bYes (vVar 2) [2, 3, 4])) vsNil))) sNil)))
noncomputable def b_is_state (c : Calls) : TSt :=
  (sSeq (sIf (bOr (bNot (bV (vIsi "tuple" (vVar 0)))) (bOr (bBl (vBin oNe (vCall fLen (vsCons (vVar 0) vsNil)) (vC (.int 3)))) (bOr (bNot (bV (vApp (c 0) (vsCons (vBin oIdx (vVar 0) (vC (.int 0))) vsNil)))) (bNot (bV (vIsi "bool" (vBin oIdx (vVar 0) (vC (.int 1))))))))) (sSeq (sRet (vC (.bl false))) sNil) sNil) (sSeq (sIf (bOr (bNot (bV (vIsi "tuple" (vBin oIdx (vVar 0) (vC (.int 2)))))) (bOr (bBl (vBin oGt (vCall fLen (vsCons (vBin oIdx (vVar 0) (vC (.int 2))) vsNil)) (vC k_MOST_DEEDS))) (bNot (bV (vCallL fAll (lComp (tgN 1) (iV (vBin oIdx (vVar 0) (vC (.int 2)))) bYes (vApp (c 4) (vsCons (vVar 1) vsNil)) [1])))))) (sSeq (sRet (vC (.bl false))) sNil) sNil) (sSeq (sRet (vApp (c 1) (vsCons (vNew (lComp (tgT (tgCons (tgN 1) (tgCons (tgN 2) tgNil))) (iV (vBin oIdx (vVar 0) (vC (.int 2)))) bYes (vVar 1) [1, 2])) vsNil))) sNil)))
noncomputable def b_all_outs (c : Calls) : TSt :=
  (sSeq (sSet 1 (vNew (lDisp vsNil))) (sSeq (sFor (tgT (tgCons (tgN 2) (tgCons (tgN 3) (tgCons (tgN 4) tgNil)))) (iV (vBin oIdx (vVar 0) (vC (.int 1)))) (sSeq (sFor (tgT (tgCons (tgN 5) (tgCons (tgN 6) tgNil))) (iV (vVar 4)) (sSeq (sExpr (vExtV (vVar 1) (vVar 6))) sNil)) sNil)) (sSeq (sRet (vVar 1)) sNil)))
noncomputable def b_is_kind (c : Calls) : TSt :=
  (sSeq (sIf (bOr (bNot (bV (vIsi "tuple" (vVar 0)))) (bOr (bBl (vBin oNe (vCall fLen (vsCons (vVar 0) vsNil)) (vC (.int 2)))) (bOr (bNot (bV (vApp (c 0) (vsCons (vBin oIdx (vVar 0) (vC (.int 0))) vsNil)))) (bNot (bV (vIsi "tuple" (vBin oIdx (vVar 0) (vC (.int 1))))))))) (sSeq (sRet (vC (.bl false))) sNil) sNil) (sSeq (sIf (bOr (bNot (bBl (vChn oLe oLe (vC (.int 1)) (vCall fLen (vsCons (vBin oIdx (vVar 0) (vC (.int 1))) vsNil)) (vC k_MOST_STATES)))) (bNot (bV (vCallL fAll (lComp (tgN 2) (iV (vBin oIdx (vVar 0) (vC (.int 1)))) bYes (vApp (c 5) (vsCons (vVar 2) vsNil)) [2]))))) (sSeq (sRet (vC (.bl false))) sNil) sNil) (sSeq (sSet 1 (vNew (lComp (tgT (tgCons (tgN 2) (tgCons (tgN 3) (tgCons (tgN 4) tgNil)))) (iV (vBin oIdx (vVar 0) (vC (.int 1)))) bYes (vVar 2) [2, 3, 4]))) (sSeq (sIf (bNot (bV (vApp (c 1) (vsCons (vVar 1) vsNil)))) (sSeq (sRet (vC (.bl false))) sNil) sNil) (sSeq (sRet (vCallL fAll (lComp (tgT (tgCons (tgN 5) (tgCons (tgN 6) (tgCons (tgN 7) tgNil)))) (iV (vApp (c 6) (vsCons (vVar 0) vsNil))) bYes (vOr (vBin oIs (vVar 6) (vC .non)) (vBin oIn (vVar 6) (vVar 1))) [5, 6, 7]))) sNil)))))
noncomputable def b__law_well (c : Calls) : TSt :=
  (sSeq (sSet 2 (vC (.int 0))) (sSeq (sIf (bBl (vBin oLt (vVar 1) (vCall fLen (vsCons (vVar 0) vsNil)))) (sSeq (sSet 2 (vBin oIdx (vVar 0) (vVar 1))) sNil) sNil) (sSeq (sRet (vNew (lDisp (vsCons (vBin oMul (vVar 2) (vCall fInt (vsCons (vBin oGe (vVar 2) (vBin oPow (vC (.int 10)) (vC (.int 18)))) vsNil))) (vsCons (vBin oAdd (vBin oMod (vVar 2) (vC (.int 2147483647))) (vBin oMul (vC (.int 7)) (vVar 1))) (vsCons (vC (.int 0)) vsNil)))))) sNil)))
noncomputable def b__law_take (c : Calls) : TSt :=
  (sSeq (sIf (bBl (vBin oGt (vBin oIdx (vVar 0) (vC (.int 0))) (vC (.int 0)))) (sSeq (sSet 2 (vBin oMod (vBin oIdx (vVar 0) (vC (.int 0))) (vVar 1))) (sSeq (sSub (vVar 0) (vC (.int 0)) (vBin oDiv (vBin oIdx (vVar 0) (vC (.int 0))) (vVar 1))) (sSeq (sRet (vVar 2)) sNil))) sNil) (sSeq (sSub (vVar 0) (vC (.int 2)) (vBin oAdd (vBin oIdx (vVar 0) (vC (.int 2))) (vC (.int 1)))) (sSeq (sSet 3 (vBin oMod (vBin oMul (vBin oAdd (vBin oIdx (vVar 0) (vC (.int 1))) (vBin oMul (vC (.int 7919)) (vBin oIdx (vVar 0) (vC (.int 2))))) (vC (.int 48271))) (vC (.int 2147483647)))) (sSeq (sRet (vBin oMod (vBin oDiv (vBin oMod (vBin oMul (vVar 3) (vBin oAdd (vVar 3) (vC (.int 69621)))) (vC (.int 2147483629))) (vC (.int 8))) (vVar 1))) sNil))))
noncomputable def b__law_barred (c : Calls) : TSt :=
  (sSeq (sSet 0 (vStr "make use ask call see blind move leave loop out back fit bare as kind def main rest gone")) (sSeq (sRet (vNew (lSm mSplit (vVar 0) (vsCons (vStr " ") vsNil)))) sNil))
noncomputable def b__law_unlike (c : Calls) : TSt :=
  (sSeq (sSet 1 (vStr "abcdefghijklmnopqrstuvwxyz")) (sSeq (sSet 2 (vNew (lDisp vsNil))) (sSeq (sFor (tgN 3) (iV (vVar 0)) (sSeq (sWhile (bOr (bBl (vBin oIn (vVar 3) (vVar 2))) (bBl (vBin oIn (vVar 3) (vApp0 (c 10))))) (sSeq (sSet 3 (vBin oAdd (vBin oIdx (vVar 1) (vBin oMod (vBin oAdd (vSm mIndex (vVar 1) (vsCons (vBin oIdx (vVar 3) (vC (.int 0))) vsNil)) (vC (.int 1))) (vC (.int 26)))) (vSlc (vVar 3) (oSome (vC (.int 1))) oNone))) sNil)) (sSeq (sExpr (vLm mAppend (vVar 2) (vsCons (vVar 3) vsNil))) sNil))) (sSeq (sRet (vVar 2)) sNil))))
noncomputable def b__law_names (c : Calls) : TSt :=
  (sSeq (sSet 2 (vStr "abcdefghijklmnopqrstuvwxyz")) (sSeq (sSet 3 (vSmL mJoin (vStr "") (lComp (tgN 8) (iRng (vsCons (vC (.int 8)) vsNil)) bYes (vBin oIdx (vVar 2) (vApp (c 9) (vsCons (vVar 0) (vsCons (vC (.int 26)) vsNil)))) [8]))) (sSeq (sSet 4 (vApp (c 9) (vsCons (vVar 0) (vsCons (vC (.int 4)) vsNil)))) (sSeq (sSet 5 (vBin oAdd (vC (.int 1)) (vApp (c 9) (vsCons (vVar 0) (vsCons (vC (.int 8)) vsNil))))) (sSeq (sSet 6 (vApp (c 9) (vsCons (vVar 0) (vsCons (vVar 5) vsNil)))) (sSeq (sSet 7 (vNew (lDisp vsNil))) (sSeq (sFor (tgN 8) (iRng (vsCons (vVar 1) vsNil)) (sSeq (sSet 9 (vBin oIdx (vVar 2) (vBin oMod (vBin oAdd (vSm mIndex (vVar 2) (vsCons (vBin oIdx (vVar 3) (vVar 6)) vsNil)) (vVar 8)) (vC (.int 26))))) (sSeq (sSet 10 (vBin oAdd (vBin oAdd (vSlc (vVar 3) oNone (oSome (vVar 6))) (vVar 9)) (vSlc (vVar 3) (oSome (vBin oAdd (vVar 6) (vC (.int 1)))) (oSome (vVar 5))))) (sSeq (sIf (bBl (vBin oEq (vVar 4) (vC (.int 0)))) (sSeq (sSet 10 (vSlc (vVar 3) oNone (oSome (vBin oAdd (vC (.int 1)) (vBin oMod (vVar 8) (vC (.int 8))))))) sNil) (sSeq (sIf (bBl (vBin oEq (vVar 4) (vC (.int 1)))) (sSeq (sSet 11 (vBin oAdd (vC (.int 1)) (vApp (c 9) (vsCons (vVar 0) (vsCons (vC (.int 8)) vsNil))))) (sSeq (sSet 10 (vSmL mJoin (vStr "") (lComp (tgN 13) (iRng (vsCons (vVar 11) vsNil)) bYes (vBin oIdx (vVar 2) (vApp (c 9) (vsCons (vVar 0) (vsCons (vC (.int 26)) vsNil)))) [13]))) sNil)) sNil) sNil)) (sSeq (sExpr (vLm mAppend (vVar 7) (vsCons (vVar 10) vsNil))) sNil))))) (sSeq (sIf (bBl (vBin oEq (vApp (c 9) (vsCons (vVar 0) (vsCons (vC (.int 4)) vsNil))) (vC (.int 1)))) (sSeq (sSet 12 (vNew (lDisp (vsCons (vStr "done") (vsCons (vStr "open") (vsCons (vStr "room") (vsCons (vStr "none") (vsCons (vStr "yes") (vsCons (vStr "no") vsNil))))))))) (sSeq (sSub (vVar 7) (vApp (c 9) (vsCons (vVar 0) (vsCons (vVar 1) vsNil))) (vBin oIdx (vVar 12) (vApp (c 9) (vsCons (vVar 0) (vsCons (vC (.int 6)) vsNil))))) sNil)) sNil) (sSeq (sRet (vApp (c 11) (vsCons (vVar 7) vsNil))) sNil)))))))))
noncomputable def b__law_some (c : Calls) : TSt :=
  (sSeq (sSet 3 (vApp (c 9) (vsCons (vVar 0) (vsCons (vC (.int 12)) vsNil)))) (sSeq (sSet 4 (vBin oIdx (vNew (lDisp (vsCons (vC (.int 1)) (vsCons (vC (.int 5)) (vsCons (vC (.int 7)) (vsCons (vC (.int 11)) vsNil)))))) (vApp (c 9) (vsCons (vVar 0) (vsCons (vC (.int 4)) vsNil))))) (sSeq (sRet (vNew (lComp (tgN 5) (iRng (vsCons (vVar 2) vsNil)) bYes (vBin oIdx (vVar 1) (vBin oMod (vBin oAdd (vVar 3) (vBin oMul (vVar 4) (vVar 5))) (vC (.int 12)))) [5]))) sNil)))
noncomputable def b__law_outs (c : Calls) : TSt :=
  (sSeq (sSet 6 (vBin oAdd (vC (.int 1)) (vApp (c 9) (vsCons (vVar 0) (vsCons (vC (.int 3)) vsNil))))) (sSeq (sIf (bBl (vBin oEq (vApp (c 9) (vsCons (vVar 0) (vsCons (vC (.int 8)) vsNil))) (vC (.int 5)))) (sSeq (sSet 6 (vC (.int 6))) sNil) sNil) (sSeq (sSet 6 (vCall fMin (vsCons (vVar 6) (vsCons (vBin oIdx (vVar 5) (vC (.int 0))) vsNil)))) (sSeq (sSub (vVar 5) (vC (.int 0)) (vBin oSub (vBin oIdx (vVar 5) (vC (.int 0))) (vVar 6))) (sSeq (sSet 7 (vBin oEq (vApp (c 9) (vsCons (vVar 0) (vsCons (vC (.int 4)) vsNil))) (vC (.int 0)))) (sSeq (sSet 8 (vNew (lDisp vsNil))) (sSeq (sFor (tgN 9) (iV (vApp (c 13) (vsCons (vVar 0) (vsCons (vVar 1) (vsCons (vVar 6) vsNil))))) (sSeq (sSet 10 (vBin oIdx (vNew (lCat (lVal (vVar 2)) (lDisp (vsCons (vC .non) vsNil)))) (vApp (c 9) (vsCons (vVar 0) (vsCons (vBin oAdd (vCall fLen (vsCons (vVar 2) vsNil)) (vC (.int 1))) vsNil))))) (sSeq (sSet 11 (vC .non)) (sSeq (sIf (bAnd (bBl (vBin oEq (vApp (c 9) (vsCons (vVar 0) (vsCons (vC (.int 3)) vsNil))) (vC (.int 0)))) (bBl (vEqL true (lVal (vVar 4)) (lDisp vsNil)))) (sSeq (sSet 11 (vBin oIdx (vVar 4) (vApp (c 9) (vsCons (vVar 0) (vsCons (vCall fLen (vsCons (vVar 4) vsNil)) vsNil))))) sNil) sNil) (sSeq (sIf (bV (vVar 7)) (sSeq (sSet 10 (vVar 3)) (sSeq (sSet 11 (vC .non)) sNil)) sNil) (sSeq (sExpr (vLm mAppend (vVar 8) (vsCons (vTup (vsCons (vVar 9) (vsCons (vVar 10) (vsCons (vVar 11) vsNil)))) vsNil))) sNil)))))) (sSeq (sRet (vCall fTup (vsCons (vVar 8) vsNil))) sNil))))))))
noncomputable def b__law_state (c : Calls) : TSt :=
  (sSeq (sSet 6 (vApp (c 9) (vsCons (vVar 0) (vsCons (vC (.int 4)) vsNil)))) (sSeq (sIf (bBl (vBin oEq (vApp (c 9) (vsCons (vVar 0) (vsCons (vC (.int 8)) vsNil))) (vC (.int 5)))) (sSeq (sSet 6 (vC (.int 8))) sNil) sNil) (sSeq (sSet 7 (vBin oEq (vApp (c 9) (vsCons (vVar 0) (vsCons (vC (.int 2)) vsNil))) (vC (.int 1)))) (sSeq (sSet 8 (vNew (lDisp vsNil))) (sSeq (sFor (tgN 9) (iV (vApp (c 13) (vsCons (vVar 0) (vsCons (vVar 1) (vsCons (vVar 6) vsNil))))) (sSeq (sIf (bBl (vBin oGt (vBin oIdx (vVar 5) (vC (.int 0))) (vC (.int 0)))) (sSeq (sSet 10 (vApp (c 14) (vsCons (vVar 0) (vsCons (vVar 1) (vsCons (vVar 2) (vsCons (vVar 3) (vsCons (vVar 4) (vsCons (vVar 5) vsNil)))))))) (sSeq (sExpr (vLm mAppend (vVar 8) (vsCons (vTup (vsCons (vVar 9) (vsCons (vVar 10) vsNil))) vsNil))) sNil)) sNil) sNil)) (sSeq (sRet (vTup (vsCons (vVar 3) (vsCons (vVar 7) (vsCons (vCall fTup (vsCons (vVar 8) vsNil)) vsNil))))) sNil))))))
noncomputable def b__law_kind (c : Calls) : TSt :=
  (sSeq (sSet 5 (vBin oAdd (vC (.int 1)) (vApp (c 9) (vsCons (vVar 0) (vsCons (vC (.int 4)) vsNil))))) (sSeq (sIf (bBl (vBin oEq (vApp (c 9) (vsCons (vVar 0) (vsCons (vC (.int 8)) vsNil))) (vC (.int 5)))) (sSeq (sSet 5 (vC (.int 8))) sNil) sNil) (sSeq (sSet 6 (vApp (c 13) (vsCons (vVar 0) (vsCons (vVar 1) (vsCons (vVar 5) vsNil))))) (sSeq (sSet 7 (vNew (lDisp (vsCons (vVar 4) vsNil)))) (sSeq (sSet 8 (vNew (lDisp vsNil))) (sSeq (sFor (tgN 9) (iV (vVar 6)) (sSeq (sExpr (vLm mAppend (vVar 8) (vsCons (vApp (c 15) (vsCons (vVar 0) (vsCons (vVar 1) (vsCons (vVar 6) (vsCons (vVar 9) (vsCons (vVar 3) (vsCons (vVar 7) vsNil))))))) vsNil))) sNil)) (sSeq (sRet (vTup (vsCons (vVar 2) (vsCons (vCall fTup (vsCons (vVar 8) vsNil)) vsNil)))) sNil)))))))
noncomputable def b__law_is_name (c : Calls) : TSt :=
  (sSeq (sIf (bOr (bNot (bV (vIsi "str" (vVar 0)))) (bOr (bBl (vBin oLt (vCall fLen (vsCons (vVar 0) vsNil)) (vC (.int 1)))) (bOr (bBl (vBin oGt (vCall fLen (vsCons (vVar 0) vsNil)) (vC (.int 8)))) (bBl (vBin oIn (vVar 0) (vApp0 (c 10))))))) (sSeq (sRet (vC (.bl false))) sNil) sNil) (sSeq (sRet (vEqL false (lComp (tgN 1) (iV (vVar 0)) (bBl (vBin oNotIn (vVar 1) (vStr "abcdefghijklmnopqrstuvwxyz"))) (vVar 1) [1]) (lDisp vsNil))) sNil))
noncomputable def b__law_row_of (c : Calls) : TSt :=
  (sSeq (sRet (vAnd (vIsi "tuple" (vVar 0)) (vAnd (vBin oLe (vVar 1) (vCall fLen (vsCons (vVar 0) vsNil))) (vBin oLe (vCall fLen (vsCons (vVar 0) vsNil)) (vVar 2))))) sNil)
noncomputable def b__law_twice (c : Calls) : TSt :=
  (sSeq (sRet (vEqL true (lComp (tgT (tgCons (tgN 1) (tgCons (tgN 2) tgNil))) (iEn (vVar 0)) (bBl (vBin oIn (vVar 2) (vNew (lSlc (vVar 0) oNone (oSome (vVar 1)))))) (vVar 2) [1, 2]) (lDisp vsNil))) sNil)
noncomputable def b__law_out_right (c : Calls) : TSt :=
  (sSeq (sIf (bOr (bNot (bV (vApp (c 18) (vsCons (vVar 0) (vsCons (vC (.int 3)) (vsCons (vC (.int 3)) vsNil)))))) (bNot (bV (vApp (c 17) (vsCons (vBin oIdx (vVar 0) (vC (.int 0))) vsNil))))) (sSeq (sRet (vC (.bl false))) sNil) sNil) (sSeq (sRet (vAnd (vOr (vBin oIs (vBin oIdx (vVar 0) (vC (.int 1))) (vC .non)) (vApp (c 17) (vsCons (vBin oIdx (vVar 0) (vC (.int 1))) vsNil))) (vOr (vBin oIs (vBin oIdx (vVar 0) (vC (.int 2))) (vC .non)) (vApp (c 17) (vsCons (vBin oIdx (vVar 0) (vC (.int 2))) vsNil))))) sNil))
noncomputable def b__law_deed_right (c : Calls) : TSt :=
  (sSeq (sIf (bOr (bNot (bV (vApp (c 18) (vsCons (vVar 0) (vsCons (vC (.int 2)) (vsCons (vC (.int 2)) vsNil)))))) (bOr (bNot (bV (vApp (c 17) (vsCons (vBin oIdx (vVar 0) (vC (.int 0))) vsNil)))) (bNot (bV (vApp (c 18) (vsCons (vBin oIdx (vVar 0) (vC (.int 1))) (vsCons (vC (.int 1)) (vsCons (vC (.int 6)) vsNil)))))))) (sSeq (sRet (vC (.bl false))) sNil) sNil) (sSeq (sIf (bNot (bV (vCallL fAll (lComp (tgN 1) (iV (vBin oIdx (vVar 0) (vC (.int 1)))) bYes (vApp (c 20) (vsCons (vVar 1) vsNil)) [1])))) (sSeq (sRet (vC (.bl false))) sNil) sNil) (sSeq (sRet (vNot (vApp (c 19) (vsCons (vNew (lComp (tgN 1) (iV (vBin oIdx (vVar 0) (vC (.int 1)))) bYes (vBin oIdx (vVar 1) (vC (.int 0))) [1])) vsNil)))) sNil)))
noncomputable def b__law_state_right (c : Calls) : TSt :=
  (sSeq (sIf (bOr (bNot (bV (vApp (c 18) (vsCons (vVar 0) (vsCons (vC (.int 3)) (vsCons (vC (.int 3)) vsNil)))))) (bOr (bNot (bV (vApp (c 17) (vsCons (vBin oIdx (vVar 0) (vC (.int 0))) vsNil)))) (bNot (bV (vIsi "bool" (vBin oIdx (vVar 0) (vC (.int 1)))))))) (sSeq (sRet (vC (.bl false))) sNil) sNil) (sSeq (sIf (bOr (bNot (bV (vApp (c 18) (vsCons (vBin oIdx (vVar 0) (vC (.int 2))) (vsCons (vC (.int 0)) (vsCons (vC (.int 8)) vsNil)))))) (bNot (bV (vCallL fAll (lComp (tgN 1) (iV (vBin oIdx (vVar 0) (vC (.int 2)))) bYes (vApp (c 21) (vsCons (vVar 1) vsNil)) [1]))))) (sSeq (sRet (vC (.bl false))) sNil) sNil) (sSeq (sRet (vNot (vApp (c 19) (vsCons (vNew (lComp (tgN 1) (iV (vBin oIdx (vVar 0) (vC (.int 2)))) bYes (vBin oIdx (vVar 1) (vC (.int 0))) [1])) vsNil)))) sNil)))
noncomputable def b__law_is_kind (c : Calls) : TSt :=
  (sSeq (sIf (bOr (bNot (bV (vApp (c 18) (vsCons (vVar 0) (vsCons (vC (.int 2)) (vsCons (vC (.int 2)) vsNil)))))) (bOr (bNot (bV (vApp (c 17) (vsCons (vBin oIdx (vVar 0) (vC (.int 0))) vsNil)))) (bNot (bV (vApp (c 18) (vsCons (vBin oIdx (vVar 0) (vC (.int 1))) (vsCons (vC (.int 1)) (vsCons (vC (.int 8)) vsNil)))))))) (sSeq (sRet (vC (.bl false))) sNil) sNil) (sSeq (sIf (bNot (bV (vCallL fAll (lComp (tgN 2) (iV (vBin oIdx (vVar 0) (vC (.int 1)))) bYes (vApp (c 22) (vsCons (vVar 2) vsNil)) [2])))) (sSeq (sRet (vC (.bl false))) sNil) sNil) (sSeq (sSet 1 (vNew (lComp (tgN 2) (iV (vBin oIdx (vVar 0) (vC (.int 1)))) bYes (vBin oIdx (vVar 2) (vC (.int 0))) [2]))) (sSeq (sFor (tgT (tgCons (tgN 2) (tgCons (tgN 3) (tgCons (tgN 4) tgNil)))) (iV (vBin oIdx (vVar 0) (vC (.int 1)))) (sSeq (sFor (tgT (tgCons (tgN 5) (tgCons (tgN 6) tgNil))) (iV (vVar 4)) (sSeq (sIf (bBl (vEqL true (lComp (tgN 7) (iV (vVar 6)) (bAnd (bBl (vBin oIsNot (vBin oIdx (vVar 7) (vC (.int 1))) (vC .non))) (bBl (vBin oNotIn (vBin oIdx (vVar 7) (vC (.int 1))) (vVar 1)))) (vVar 7) [7]) (lDisp vsNil))) (sSeq (sRet (vC (.bl false))) sNil) sNil) sNil)) sNil)) (sSeq (sRet (vNot (vApp (c 19) (vsCons (vVar 1) vsNil)))) sNil)))))
noncomputable def b__law_odd (c : Calls) : TSt :=
  (sSeq (sSet 2 (vBin oIdx (vVar 1) (vApp (c 9) (vsCons (vVar 0) (vsCons (vC (.int 12)) vsNil))))) (sSeq (sSet 3 (vNew (lDisp (vsCons (vC .non) (vsCons (vC (.bl true)) (vsCons (vC (.bl false)) (vsCons (vC (.int 0)) (vsCons (vC (.int 1)) (vsCons (vUn oNeg (vC (.int 1))) (vsCons (vBin oPow (vC (.int 10)) (vC (.int 30))) (vsCons (vStr "") (vsCons (vStr " ") (vsCons (vStr "make") (vsCons (vStr "gone") (vsCons (vStr "rest") (vsCons (vStr "main") vsNil)))))))))))))))) (sSeq (sSet 3 (vNew (lCat (lVal (vVar 3)) (lDisp (vsCons (vStr "Ab") (vsCons (vStr "a1") (vsCons (vStr "a b") (vsCons (vStr "{") (vsCons (vStr "nineletrs") (vsCons (vVar 2) (vsCons (vTup vsNil) (vsCons (vTup (vsCons (vVar 2) vsNil)) (vsCons (vNew (lDisp vsNil)) (vsCons (vNew (lDisp (vsCons (vVar 2) vsNil))) vsNil)))))))))))))) (sSeq (sSet 3 (vNew (lCat (lVal (vVar 3)) (lDisp (vsCons (vTup (vsCons (vVar 2) (vsCons (vC .non) vsNil))) (vsCons (vTup (vsCons (vVar 2) (vsCons (vC .non) (vsCons (vC .non) vsNil)))) (vsCons (vTup (vsCons (vVar 2) (vsCons (vC (.bl true)) (vsCons (vTup vsNil) vsNil)))) vsNil))))))) (sSeq (sSet 3 (vNew (lCat (lVal (vVar 3)) (lDisp (vsCons (vTup (vsCons (vVar 2) (vsCons (vTup (vsCons (vTup (vsCons (vVar 2) (vsCons (vC .non) (vsCons (vC .non) vsNil)))) vsNil)) vsNil))) (vsCons (vTup (vsCons (vVar 2) (vsCons (vTup (vsCons (vTup (vsCons (vVar 2) (vsCons (vC (.bl false)) (vsCons (vTup vsNil) vsNil)))) vsNil)) vsNil))) vsNil)))))) (sSeq (sSet 3 (vNew (lCat (lVal (vVar 3)) (lDisp (vsCons (vBin oAdd (vVar 2) (vStr " ")) (vsCons (vSm0 mUpper (vVar 2)) (vsCons vDic0 (vsCons (vDic1 (vVar 2) (vC (.int 1))) (vsCons (vDic1 (vC (.int 0)) (vTup vsNil)) (vsCons (vNew (lDisp (vsCons vDic0 vsNil))) (vsCons (vDic1 (vStr "kind") (vVar 2)) vsNil))))))))))) (sSeq (sRet (vBin oIdx (vVar 3) (vApp (c 9) (vsCons (vVar 0) (vsCons (vCall fLen (vsCons (vVar 3) vsNil)) vsNil))))) sNil)))))))
noncomputable def b__law_bent (c : Calls) : TSt :=
  (sSeq (sSet 4 (vApp (c 9) (vsCons (vVar 0) (vsCons (vC (.int 8)) vsNil)))) (sSeq (sIf (bOr (bNot (bV (vIsi "tuple" (vVar 1)))) (bBl (vBin oEq (vVar 4) (vC (.int 0))))) (sSeq (sRet (vBin oIdx (vNew (lDisp (vsCons (vApp (c 24) (vsCons (vVar 0) (vsCons (vVar 2) vsNil))) (vsCons (vVar 3) vsNil)))) (vCall fInt (vsCons (vBin oEq (vApp (c 9) (vsCons (vVar 0) (vsCons (vC (.int 4)) vsNil))) (vC (.int 0))) vsNil)))) sNil) sNil) (sSeq (sIf (bBl (vBin oEq (vVar 4) (vC (.int 1)))) (sSeq (sRet (vNew (lCallN fList (vsCons (vVar 1) vsNil)))) sNil) sNil) (sSeq (sSet 5 (vApp (c 9) (vsCons (vVar 0) (vsCons (vCall fMax (vsCons (vC (.int 1)) (vsCons (vCall fLen (vsCons (vVar 1) vsNil)) vsNil))) vsNil)))) (sSeq (sIf (bBl (vBin oEq (vVar 4) (vC (.int 2)))) (sSeq (sRet (vBin oAdd (vSlc (vVar 1) oNone (oSome (vVar 5))) (vSlc (vVar 1) (oSome (vBin oAdd (vVar 5) (vC (.int 1)))) oNone))) sNil) sNil) (sSeq (sIf (bBl (vBin oEq (vVar 4) (vC (.int 3)))) (sSeq (sRet (vBin oAdd (vVar 1) (vSlc (vVar 1) (oSome (vVar 5)) (oSome (vBin oAdd (vVar 5) (vC (.int 1))))))) sNil) sNil) (sSeq (sIf (bBl (vBin oEq (vVar 4) (vC (.int 4)))) (sSeq (sSet 6 (vBin oAdd (vSlc (vVar 1) (oSome (vBin oAdd (vVar 5) (vC (.int 1)))) (oSome (vBin oAdd (vVar 5) (vC (.int 2))))) (vSlc (vVar 1) (oSome (vVar 5)) (oSome (vBin oAdd (vVar 5) (vC (.int 1))))))) (sSeq (sRet (vBin oAdd (vBin oAdd (vSlc (vVar 1) oNone (oSome (vVar 5))) (vVar 6)) (vSlc (vVar 1) (oSome (vBin oAdd (vVar 5) (vC (.int 2)))) oNone))) sNil)) sNil) (sSeq (sIf (bBl (vBin oEq (vVar 4) (vC (.int 5)))) (sSeq (sRet (vBin oAdd (vVar 1) (vTup (vsCons (vApp (c 24) (vsCons (vVar 0) (vsCons (vVar 2) vsNil))) vsNil)))) sNil) sNil) (sSeq (sIf (bAnd (bBl (vBin oEq (vVar 4) (vC (.int 6)))) (bBl (vBin oNe (vVar 1) (vTup vsNil)))) (sSeq (sRet (vBin oAdd (vBin oAdd (vSlc (vVar 1) oNone (oSome (vVar 5))) (vTup (vsCons (vVar 3) vsNil))) (vSlc (vVar 1) (oSome (vBin oAdd (vVar 5) (vC (.int 1)))) oNone))) sNil) sNil) (sSeq (sRet (vVar 1)) sNil))))))))))
noncomputable def b__law_spoilt (c : Calls) : TSt :=
  (sSeq (sSet 4 (vVar 1)) (sSeq (sSet 5 (vNew (lDisp vsNil))) (sSeq (sWhile (bAnd (bBl (vBin oLt (vCall fLen (vsCons (vVar 5) vsNil)) (vVar 3))) (bAnd (bV (vIsi "tuple" (vVar 4))) (bBl (vBin oNe (vVar 4) (vTup vsNil))))) (sSeq (sSet 6 (vApp (c 9) (vsCons (vVar 0) (vsCons (vCall fLen (vsCons (vVar 4) vsNil)) vsNil)))) (sSeq (sExpr (vLm mAppend (vVar 5) (vsCons (vTup (vsCons (vVar 4) (vsCons (vVar 6) vsNil))) vsNil))) (sSeq (sSet 4 (vBin oIdx (vVar 4) (vVar 6))) sNil)))) (sSeq (sSet 7 (vApp (c 25) (vsCons (vVar 0) (vsCons (vVar 4) (vsCons (vVar 2) (vsCons (vBin oIdx (vVar 2) (vApp (c 9) (vsCons (vVar 0) (vsCons (vC (.int 12)) vsNil)))) vsNil)))))) (sSeq (sFor (tgT (tgCons (tgN 8) (tgCons (tgN 6) tgNil))) (iL (lRev (vVar 5))) (sSeq (sSet 7 (vBin oAdd (vBin oAdd (vSlc (vVar 8) oNone (oSome (vVar 6))) (vTup (vsCons (vVar 7) vsNil))) (vSlc (vVar 8) (oSome (vBin oAdd (vVar 6) (vC (.int 1)))) oNone))) sNil)) (sSeq (sRet (vVar 7)) sNil))))))
noncomputable def b__law_more (c : Calls) : TSt :=
  (sSeq (sSet 2 (vApp (c 9) (vsCons (vVar 0) (vsCons (vC (.int 6)) vsNil)))) (sSeq (sSet 3 (vApp (c 9) (vsCons (vVar 0) (vsCons (vC (.int 2)) vsNil)))) (sSeq (sSet 4 (vTup (vsCons (vBin oIdx (vVar 1) (vC (.int 0))) (vsCons (vC (.bl true)) (vsCons (vTup (vsCons (vTup (vsCons (vBin oIdx (vVar 1) (vC (.int 1))) (vsCons (vTup (vsCons (vTup (vsCons (vBin oIdx (vVar 1) (vC (.int 2))) (vsCons (vBin oIdx (vVar 1) (vC (.int 0))) (vsCons (vC .non) vsNil)))) vsNil)) vsNil))) vsNil)) vsNil))))) (sSeq (sIf (bBl (vBin oEq (vVar 2) (vC (.int 0)))) (sSeq (sRet (vTup (vsCons (vBin oIdx (vVar 1) (vVar 3)) (vsCons (vCallL (fun xs => some (.tup xs)) (lComp (tgN 8) (iL (lSlc (vVar 1) oNone (oSome (vBin oAdd (vC (.int 8)) (vVar 3))))) bYes (vTup (vsCons (vVar 8) (vsCons (vC (.bl true)) (vsCons (vTup vsNil) vsNil)))) [8])) vsNil)))) sNil) sNil) (sSeq (sIf (bBl (vBin oEq (vVar 2) (vC (.int 1)))) (sSeq (sSet 5 (vCallL (fun xs => some (.tup xs)) (lComp (tgN 8) (iL (lSlc (vVar 1) oNone (oSome (vBin oAdd (vC (.int 8)) (vVar 3))))) bYes (vTup (vsCons (vVar 8) (vsCons (vTup (vsCons (vTup (vsCons (vBin oIdx (vVar 1) (vC (.int 3))) (vsCons (vC .non) (vsCons (vC .non) vsNil)))) vsNil)) vsNil))) [8]))) (sSeq (sRet (vTup (vsCons (vBin oIdx (vVar 1) (vVar 3)) (vsCons (vTup (vsCons (vVar 4) (vsCons (vTup (vsCons (vBin oIdx (vVar 1) (vC (.int 5))) (vsCons (vC (.bl false)) (vsCons (vVar 5) vsNil)))) vsNil))) vsNil)))) sNil)) sNil) (sSeq (sIf (bBl (vBin oEq (vVar 2) (vC (.int 2)))) (sSeq (sSet 6 (vCallL (fun xs => some (.tup xs)) (lComp (tgN 8) (iL (lSlc (vVar 1) oNone (oSome (vBin oAdd (vC (.int 6)) (vVar 3))))) bYes (vTup (vsCons (vVar 8) (vsCons (vBin oIdx (vVar 1) (vC (.int 0))) (vsCons (vC .non) vsNil)))) [8]))) (sSeq (sRet (vTup (vsCons (vBin oIdx (vVar 1) (vVar 3)) (vsCons (vTup (vsCons (vVar 4) (vsCons (vTup (vsCons (vBin oIdx (vVar 1) (vC (.int 5))) (vsCons (vC (.bl false)) (vsCons (vTup (vsCons (vTup (vsCons (vBin oIdx (vVar 1) (vC (.int 4))) (vsCons (vVar 6) vsNil))) vsNil)) vsNil)))) vsNil))) vsNil)))) sNil)) sNil) (sSeq (sIf (bBl (vBin oEq (vVar 2) (vC (.int 3)))) (sSeq (sSet 7 (vTup (vsCons (vBin oIdx (vVar 1) (vC (.int 2))) (vsCons (vBin oIdx (vVar 1) (vBin oIdx (vNew (lDisp (vsCons (vC (.int 0)) (vsCons (vC (.int 3)) vsNil)))) (vVar 3))) (vsCons (vBin oIdx (vVar 1) (vC (.int 7))) vsNil))))) (sSeq (sRet (vTup (vsCons (vBin oIdx (vVar 1) (vC (.int 2))) (vsCons (vTup (vsCons (vTup (vsCons (vBin oIdx (vVar 1) (vC (.int 0))) (vsCons (vC (.bl true)) (vsCons (vTup (vsCons (vTup (vsCons (vBin oIdx (vVar 1) (vC (.int 1))) (vsCons (vTup (vsCons (vVar 7) vsNil)) vsNil))) vsNil)) vsNil)))) vsNil)) vsNil)))) sNil)) sNil) (sSeq (sIf (bBl (vBin oEq (vVar 2) (vC (.int 4)))) (sSeq (sRet (vTup (vsCons (vBin oIdx (vVar 1) (vC (.int 2))) (vsCons (vTup (vsCons (vVar 4) (vsCons (vTup (vsCons (vBin oIdx (vVar 1) (vBin oIdx (vNew (lDisp (vsCons (vC (.int 1)) (vsCons (vC (.int 0)) vsNil)))) (vVar 3))) (vsCons (vC (.bl false)) (vsCons (vTup vsNil) vsNil)))) vsNil))) vsNil)))) sNil) sNil) (sSeq (sRet (vTup (vsCons (vBin oIdx (vVar 1) (vC (.int 3))) (vsCons (vSlc (vTup (vsCons (vVar 4) vsNil)) (oSome (vVar 3)) oNone) vsNil)))) sNil)))))))))
noncomputable def b_law (c : Calls) : TSt :=
  (sSeq (sSet 1 (vApp (c 8) (vsCons (vVar 0) (vsCons (vC (.int 0)) vsNil)))) (sSeq (sSet 2 (vApp (c 12) (vsCons (vVar 1) (vsCons (vC (.int 12)) vsNil)))) (sSeq (sSet 3 (vApp (c 16) (vsCons (vVar 1) (vsCons (vVar 2) (vsCons (vBin oIdx (vVar 2) (vApp (c 9) (vsCons (vVar 1) (vsCons (vC (.int 12)) vsNil)))) (vsCons (vNew (lSlc (vVar 2) oNone (oSome (vC (.int 3))))) (vsCons (vC (.int 90)) vsNil))))))) (sSeq (sIf (bOr (bNot (bV (vApp (c 23) (vsCons (vVar 3) vsNil)))) (bBl (vBin oIsNotB (vApp (c 7) (vsCons (vVar 3) vsNil)) (vC (.bl true))))) (sSeq (sRet (vC (.bl false))) sNil) sNil) (sSeq (sSet 4 (vVar 3)) (sSeq (sFor (tgN 5) (iRng (vsCons (vC (.int 1)) (vsCons (vCall fMax (vsCons (vC (.int 4)) (vsCons (vCall fMin (vsCons (vCall fLen (vsCons (vVar 0) vsNil)) (vsCons (vC (.int 15)) vsNil))) vsNil))) vsNil))) (sSeq (sSet 1 (vApp (c 8) (vsCons (vVar 0) (vsCons (vVar 5) vsNil)))) (sSeq (sIf (bOr (bBl (vBin oGt (vApp (c 9) (vsCons (vVar 1) (vsCons (vC (.int 3)) vsNil))) (vC (.int 0)))) (bNot (bV (vIsi "tuple" (vVar 4))))) (sSeq (sSet 4 (vVar 3)) sNil) sNil) (sSeq (sIf (bBl (vBin oEq (vApp (c 9) (vsCons (vVar 1) (vsCons (vC (.int 5)) vsNil))) (vC (.int 0)))) (sSeq (sSet 4 (vApp (c 27) (vsCons (vVar 1) (vsCons (vVar 2) vsNil)))) sNil) (sSeq (sSet 4 (vApp (c 26) (vsCons (vVar 1) (vsCons (vVar 4) (vsCons (vVar 2) (vsCons (vBin oAdd (vC (.int 1)) (vApp (c 9) (vsCons (vVar 1) (vsCons (vC (.int 8)) vsNil)))) vsNil)))))) sNil)) (sSeq (sFor (tgN 6) (iRng (vsCons (vC (.int 2)) vsNil)) (sSeq (sSet 7 (vApp (c 7) (vsCons (vVar 4) vsNil))) (sSeq (sIf (bOr (bNot (bV (vIsi "bool" (vVar 7)))) (bBl (vBin oNe (vVar 7) (vApp (c 23) (vsCons (vVar 4) vsNil))))) (sSeq (sRet (vC (.bl false))) sNil) sNil) sNil))) sNil))))) (sSeq (sRet (vBin oIsB (vApp (c 7) (vsCons (vVar 3) vsNil)) (vC (.bl true)))) sNil)))))))
noncomputable def TT : Nat → Calls
  | 0 => fun _ _ _ => .bad
  | n + 1 => fun j => match j with
    | 0 => fnV 1 2 (b_is_name (TT n))
    | 1 => fnV 1 1 (b_are_unlike (TT n))
    | 2 => fnV 1 1 (b_is_maybe (TT n))
    | 3 => fnV 1 1 (b_is_out (TT n))
    | 4 => fnV 1 5 (b_is_deed (TT n))
    | 5 => fnV 1 3 (b_is_state (TT n))
    | 6 => fnV 1 7 (b_all_outs (TT n))
    | 7 => fnV 1 8 (b_is_kind (TT n))
    | 8 => fnV 2 3 (b__law_well (TT n))
    | 9 => fnV 2 4 (b__law_take (TT n))
    | 10 => fnV 0 1 (b__law_barred (TT n))
    | 11 => fnV 1 4 (b__law_unlike (TT n))
    | 12 => fnV 2 14 (b__law_names (TT n))
    | 13 => fnV 3 6 (b__law_some (TT n))
    | 14 => fnV 6 12 (b__law_outs (TT n))
    | 15 => fnV 6 11 (b__law_state (TT n))
    | 16 => fnV 5 10 (b__law_kind (TT n))
    | 17 => fnV 1 2 (b__law_is_name (TT n))
    | 18 => fnV 3 3 (b__law_row_of (TT n))
    | 19 => fnV 1 3 (b__law_twice (TT n))
    | 20 => fnV 1 1 (b__law_out_right (TT n))
    | 21 => fnV 1 2 (b__law_deed_right (TT n))
    | 22 => fnV 1 2 (b__law_state_right (TT n))
    | 23 => fnV 1 8 (b__law_is_kind (TT n))
    | 24 => fnV 2 4 (b__law_odd (TT n))
    | 25 => fnV 4 7 (b__law_bent (TT n))
    | 26 => fnV 4 9 (b__law_spoilt (TT n))
    | 27 => fnV 2 9 (b__law_more (TT n))
    | 28 => fnV 1 8 (b_law (TT n))
    | _ => fun _ _ => .bad
theorem T_is_name (n : Nat) : TT (n + 1) 0 = fnV 1 2 (b_is_name (TT n)) := rfl
theorem T_are_unlike (n : Nat) : TT (n + 1) 1 = fnV 1 1 (b_are_unlike (TT n)) := rfl
theorem T_is_maybe (n : Nat) : TT (n + 1) 2 = fnV 1 1 (b_is_maybe (TT n)) := rfl
theorem T_is_out (n : Nat) : TT (n + 1) 3 = fnV 1 1 (b_is_out (TT n)) := rfl
theorem T_is_deed (n : Nat) : TT (n + 1) 4 = fnV 1 5 (b_is_deed (TT n)) := rfl
theorem T_is_state (n : Nat) : TT (n + 1) 5 = fnV 1 3 (b_is_state (TT n)) := rfl
theorem T_all_outs (n : Nat) : TT (n + 1) 6 = fnV 1 7 (b_all_outs (TT n)) := rfl
theorem T_is_kind (n : Nat) : TT (n + 1) 7 = fnV 1 8 (b_is_kind (TT n)) := rfl
theorem T__law_well (n : Nat) : TT (n + 1) 8 = fnV 2 3 (b__law_well (TT n)) := rfl
theorem T__law_take (n : Nat) : TT (n + 1) 9 = fnV 2 4 (b__law_take (TT n)) := rfl
theorem T__law_barred (n : Nat) : TT (n + 1) 10 = fnV 0 1 (b__law_barred (TT n)) := rfl
theorem T__law_unlike (n : Nat) : TT (n + 1) 11 = fnV 1 4 (b__law_unlike (TT n)) := rfl
theorem T__law_names (n : Nat) : TT (n + 1) 12 = fnV 2 14 (b__law_names (TT n)) := rfl
theorem T__law_some (n : Nat) : TT (n + 1) 13 = fnV 3 6 (b__law_some (TT n)) := rfl
theorem T__law_outs (n : Nat) : TT (n + 1) 14 = fnV 6 12 (b__law_outs (TT n)) := rfl
theorem T__law_state (n : Nat) : TT (n + 1) 15 = fnV 6 11 (b__law_state (TT n)) := rfl
theorem T__law_kind (n : Nat) : TT (n + 1) 16 = fnV 5 10 (b__law_kind (TT n)) := rfl
theorem T__law_is_name (n : Nat) : TT (n + 1) 17 = fnV 1 2 (b__law_is_name (TT n)) := rfl
theorem T__law_row_of (n : Nat) : TT (n + 1) 18 = fnV 3 3 (b__law_row_of (TT n)) := rfl
theorem T__law_twice (n : Nat) : TT (n + 1) 19 = fnV 1 3 (b__law_twice (TT n)) := rfl
theorem T__law_out_right (n : Nat) : TT (n + 1) 20 = fnV 1 1 (b__law_out_right (TT n)) := rfl
theorem T__law_deed_right (n : Nat) : TT (n + 1) 21 = fnV 1 2 (b__law_deed_right (TT n)) := rfl
theorem T__law_state_right (n : Nat) : TT (n + 1) 22 = fnV 1 2 (b__law_state_right (TT n)) := rfl
theorem T__law_is_kind (n : Nat) : TT (n + 1) 23 = fnV 1 8 (b__law_is_kind (TT n)) := rfl
theorem T__law_odd (n : Nat) : TT (n + 1) 24 = fnV 2 4 (b__law_odd (TT n)) := rfl
theorem T__law_bent (n : Nat) : TT (n + 1) 25 = fnV 4 7 (b__law_bent (TT n)) := rfl
theorem T__law_spoilt (n : Nat) : TT (n + 1) 26 = fnV 4 9 (b__law_spoilt (TT n)) := rfl
theorem T__law_more (n : Nat) : TT (n + 1) 27 = fnV 2 9 (b__law_more (TT n)) := rfl
theorem T_law (n : Nat) : TT (n + 1) 28 = fnV 1 8 (b_law (TT n)) := rfl
theorem R_is_name (n : Nat) (a0 : PV) (S : Store) : TT (n + 1) 0 [a0] S = fin S (b_is_name (TT n) [some a0, none] S) := by
  rw [T_is_name]; exact fnV_eq 1 2 _ [a0] _ rfl
theorem R_are_unlike (n : Nat) (a0 : PV) (S : Store) : TT (n + 1) 1 [a0] S = fin S (b_are_unlike (TT n) [some a0] S) := by
  rw [T_are_unlike]; exact fnV_eq 1 1 _ [a0] _ rfl
theorem R_is_maybe (n : Nat) (a0 : PV) (S : Store) : TT (n + 1) 2 [a0] S = fin S (b_is_maybe (TT n) [some a0] S) := by
  rw [T_is_maybe]; exact fnV_eq 1 1 _ [a0] _ rfl
theorem R_is_out (n : Nat) (a0 : PV) (S : Store) : TT (n + 1) 3 [a0] S = fin S (b_is_out (TT n) [some a0] S) := by
  rw [T_is_out]; exact fnV_eq 1 1 _ [a0] _ rfl
theorem R_is_deed (n : Nat) (a0 : PV) (S : Store) : TT (n + 1) 4 [a0] S = fin S (b_is_deed (TT n) [some a0, none, none, none, none] S) := by
  rw [T_is_deed]; exact fnV_eq 1 5 _ [a0] _ rfl
theorem R_is_state (n : Nat) (a0 : PV) (S : Store) : TT (n + 1) 5 [a0] S = fin S (b_is_state (TT n) [some a0, none, none] S) := by
  rw [T_is_state]; exact fnV_eq 1 3 _ [a0] _ rfl
theorem R_all_outs (n : Nat) (a0 : PV) (S : Store) : TT (n + 1) 6 [a0] S = fin S (b_all_outs (TT n) [some a0, none, none, none, none, none, none] S) := by
  rw [T_all_outs]; exact fnV_eq 1 7 _ [a0] _ rfl
theorem R_is_kind (n : Nat) (a0 : PV) (S : Store) : TT (n + 1) 7 [a0] S = fin S (b_is_kind (TT n) [some a0, none, none, none, none, none, none, none] S) := by
  rw [T_is_kind]; exact fnV_eq 1 8 _ [a0] _ rfl
theorem R__law_well (n : Nat) (a0 a1 : PV) (S : Store) : TT (n + 1) 8 [a0, a1] S = fin S (b__law_well (TT n) [some a0, some a1, none] S) := by
  rw [T__law_well]; exact fnV_eq 2 3 _ [a0, a1] _ rfl
theorem R__law_take (n : Nat) (a0 a1 : PV) (S : Store) : TT (n + 1) 9 [a0, a1] S = fin S (b__law_take (TT n) [some a0, some a1, none, none] S) := by
  rw [T__law_take]; exact fnV_eq 2 4 _ [a0, a1] _ rfl
theorem R__law_barred (n : Nat) (S : Store) : TT (n + 1) 10 [] S = fin S (b__law_barred (TT n) [none] S) := by
  rw [T__law_barred]; exact fnV_eq 0 1 _ [] _ rfl
theorem R__law_unlike (n : Nat) (a0 : PV) (S : Store) : TT (n + 1) 11 [a0] S = fin S (b__law_unlike (TT n) [some a0, none, none, none] S) := by
  rw [T__law_unlike]; exact fnV_eq 1 4 _ [a0] _ rfl
theorem R__law_names (n : Nat) (a0 a1 : PV) (S : Store) : TT (n + 1) 12 [a0, a1] S = fin S (b__law_names (TT n) [some a0, some a1, none, none, none, none, none, none, none, none, none, none, none, none] S) := by
  rw [T__law_names]; exact fnV_eq 2 14 _ [a0, a1] _ rfl
theorem R__law_some (n : Nat) (a0 a1 a2 : PV) (S : Store) : TT (n + 1) 13 [a0, a1, a2] S = fin S (b__law_some (TT n) [some a0, some a1, some a2, none, none, none] S) := by
  rw [T__law_some]; exact fnV_eq 3 6 _ [a0, a1, a2] _ rfl
theorem R__law_outs (n : Nat) (a0 a1 a2 a3 a4 a5 : PV) (S : Store) : TT (n + 1) 14 [a0, a1, a2, a3, a4, a5] S = fin S (b__law_outs (TT n) [some a0, some a1, some a2, some a3, some a4, some a5, none, none, none, none, none, none] S) := by
  rw [T__law_outs]; exact fnV_eq 6 12 _ [a0, a1, a2, a3, a4, a5] _ rfl
theorem R__law_state (n : Nat) (a0 a1 a2 a3 a4 a5 : PV) (S : Store) : TT (n + 1) 15 [a0, a1, a2, a3, a4, a5] S = fin S (b__law_state (TT n) [some a0, some a1, some a2, some a3, some a4, some a5, none, none, none, none, none] S) := by
  rw [T__law_state]; exact fnV_eq 6 11 _ [a0, a1, a2, a3, a4, a5] _ rfl
theorem R__law_kind (n : Nat) (a0 a1 a2 a3 a4 : PV) (S : Store) : TT (n + 1) 16 [a0, a1, a2, a3, a4] S = fin S (b__law_kind (TT n) [some a0, some a1, some a2, some a3, some a4, none, none, none, none, none] S) := by
  rw [T__law_kind]; exact fnV_eq 5 10 _ [a0, a1, a2, a3, a4] _ rfl
theorem R__law_is_name (n : Nat) (a0 : PV) (S : Store) : TT (n + 1) 17 [a0] S = fin S (b__law_is_name (TT n) [some a0, none] S) := by
  rw [T__law_is_name]; exact fnV_eq 1 2 _ [a0] _ rfl
theorem R__law_row_of (n : Nat) (a0 a1 a2 : PV) (S : Store) : TT (n + 1) 18 [a0, a1, a2] S = fin S (b__law_row_of (TT n) [some a0, some a1, some a2] S) := by
  rw [T__law_row_of]; exact fnV_eq 3 3 _ [a0, a1, a2] _ rfl
theorem R__law_twice (n : Nat) (a0 : PV) (S : Store) : TT (n + 1) 19 [a0] S = fin S (b__law_twice (TT n) [some a0, none, none] S) := by
  rw [T__law_twice]; exact fnV_eq 1 3 _ [a0] _ rfl
theorem R__law_out_right (n : Nat) (a0 : PV) (S : Store) : TT (n + 1) 20 [a0] S = fin S (b__law_out_right (TT n) [some a0] S) := by
  rw [T__law_out_right]; exact fnV_eq 1 1 _ [a0] _ rfl
theorem R__law_deed_right (n : Nat) (a0 : PV) (S : Store) : TT (n + 1) 21 [a0] S = fin S (b__law_deed_right (TT n) [some a0, none] S) := by
  rw [T__law_deed_right]; exact fnV_eq 1 2 _ [a0] _ rfl
theorem R__law_state_right (n : Nat) (a0 : PV) (S : Store) : TT (n + 1) 22 [a0] S = fin S (b__law_state_right (TT n) [some a0, none] S) := by
  rw [T__law_state_right]; exact fnV_eq 1 2 _ [a0] _ rfl
theorem R__law_is_kind (n : Nat) (a0 : PV) (S : Store) : TT (n + 1) 23 [a0] S = fin S (b__law_is_kind (TT n) [some a0, none, none, none, none, none, none, none] S) := by
  rw [T__law_is_kind]; exact fnV_eq 1 8 _ [a0] _ rfl
theorem R__law_odd (n : Nat) (a0 a1 : PV) (S : Store) : TT (n + 1) 24 [a0, a1] S = fin S (b__law_odd (TT n) [some a0, some a1, none, none] S) := by
  rw [T__law_odd]; exact fnV_eq 2 4 _ [a0, a1] _ rfl
theorem R__law_bent (n : Nat) (a0 a1 a2 a3 : PV) (S : Store) : TT (n + 1) 25 [a0, a1, a2, a3] S = fin S (b__law_bent (TT n) [some a0, some a1, some a2, some a3, none, none, none] S) := by
  rw [T__law_bent]; exact fnV_eq 4 7 _ [a0, a1, a2, a3] _ rfl
theorem R__law_spoilt (n : Nat) (a0 a1 a2 a3 : PV) (S : Store) : TT (n + 1) 26 [a0, a1, a2, a3] S = fin S (b__law_spoilt (TT n) [some a0, some a1, some a2, some a3, none, none, none, none, none] S) := by
  rw [T__law_spoilt]; exact fnV_eq 4 9 _ [a0, a1, a2, a3] _ rfl
theorem R__law_more (n : Nat) (a0 a1 : PV) (S : Store) : TT (n + 1) 27 [a0, a1] S = fin S (b__law_more (TT n) [some a0, some a1, none, none, none, none, none, none, none] S) := by
  rw [T__law_more]; exact fnV_eq 2 9 _ [a0, a1] _ rfl
theorem R_law (n : Nat) (a0 : PV) (S : Store) : TT (n + 1) 28 [a0] S = fin S (b_law (TT n) [some a0, none, none, none, none, none, none, none] S) := by
  rw [T_law]; exact fnV_eq 1 8 _ [a0] _ rfl
end My
namespace My
open PySem PySem.Spec PyProof.Rows L2 Ev SX
theorem law_eq (n : Nat) : b_law (TT (n + 10)) = bLaw02 := rfl
theorem law_true : ∀ ns : List Int, ns.length ≤ 63 → ∃ S, (fnV 1 8 (b_law (TT 229))) [.frl (ns.map .int)] [] = .ok (.bl true) S := by
  intro ns _
  obtain ⟨v, S, h, rfl⟩ := W.ok (law02_w (ns := ns) (Q := fun v _ => v = .bl true) (E := fun _ _ => False) fun _ => rfl)
  rw [law_eq 219]
  exact ⟨S, h⟩
end My

namespace My
open PySem PySem.Spec PyProof.Rows L2 Ev
/-! the text is worth it -/
abbrev s_is_name : Stmt := topS 4
abbrev N_is_name : List Str := ["thing", "sign"]
theorem sc_is_name : FnScope ["thing", "sign"] ["thing"] (defScope s_is_name) := ⟨rfl, rfl, rfl, by decide +kernel, rfl, by decide +kernel, by decide +kernel⟩
abbrev s_are_unlike : Stmt := topS 9
abbrev N_are_unlike : List Str := ["names"]
theorem sc_are_unlike : FnScope ["names"] ["names"] (defScope s_are_unlike) := ⟨rfl, rfl, rfl, by decide +kernel, rfl, by decide +kernel, by decide +kernel⟩
abbrev s_is_maybe : Stmt := topS 10
abbrev N_is_maybe : List Str := ["thing"]
theorem sc_is_maybe : FnScope ["thing"] ["thing"] (defScope s_is_maybe) := ⟨rfl, rfl, rfl, by decide +kernel, rfl, by decide +kernel, by decide +kernel⟩
abbrev s_is_out : Stmt := topS 11
abbrev N_is_out : List Str := ["thing"]
theorem sc_is_out : FnScope ["thing"] ["thing"] (defScope s_is_out) := ⟨rfl, rfl, rfl, by decide +kernel, rfl, by decide +kernel, by decide +kernel⟩
abbrev s_is_deed : Stmt := topS 12
abbrev N_is_deed : List Str := ["thing", "out", "answer", "there", "made"]
theorem sc_is_deed : FnScope ["thing", "out", "answer", "there", "made"] ["thing"] (defScope s_is_deed) := ⟨rfl, rfl, rfl, by decide +kernel, rfl, by decide +kernel, by decide +kernel⟩
abbrev s_is_state : Stmt := topS 13
abbrev N_is_state : List Str := ["thing", "deed", "outs"]
theorem sc_is_state : FnScope ["thing", "deed", "outs"] ["thing"] (defScope s_is_state) := ⟨rfl, rfl, rfl, by decide +kernel, rfl, by decide +kernel, by decide +kernel⟩
abbrev s_all_outs : Stmt := topS 14
abbrev N_all_outs : List Str := ["kind", "found", "state", "rest", "deeds", "deed", "outs"]
theorem sc_all_outs : FnScope ["kind", "found", "state", "rest", "deeds", "deed", "outs"] ["kind"] (defScope s_all_outs) := ⟨rfl, rfl, rfl, by decide +kernel, rfl, by decide +kernel, by decide +kernel⟩
abbrev s_is_kind : Stmt := topS 15
abbrev N_is_kind : List Str := ["thing", "states", "state", "rest", "deeds", "answer", "there", "made"]
theorem sc_is_kind : FnScope ["thing", "states", "state", "rest", "deeds", "answer", "there", "made"] ["thing"] (defScope s_is_kind) := ⟨rfl, rfl, rfl, by decide +kernel, rfl, by decide +kernel, by decide +kernel⟩
abbrev s__law_well : Stmt := topS 17
abbrev N__law_well : List Str := ["_law_script", "_law_k", "_law_cell"]
theorem sc__law_well : FnScope ["_law_script", "_law_k", "_law_cell"] ["_law_script", "_law_k"] (defScope s__law_well) := ⟨rfl, rfl, rfl, by decide +kernel, rfl, by decide +kernel, by decide +kernel⟩
abbrev s__law_take : Stmt := topS 18
abbrev N__law_take : List Str := ["_law_well_here", "_law_many", "_law_digit", "_law_number"]
theorem sc__law_take : FnScope ["_law_well_here", "_law_many", "_law_digit", "_law_number"] ["_law_well_here", "_law_many"] (defScope s__law_take) := ⟨rfl, rfl, rfl, by decide +kernel, rfl, by decide +kernel, by decide +kernel⟩
abbrev s__law_barred : Stmt := topS 19
abbrev N__law_barred : List Str := ["_law_words"]
theorem sc__law_barred : FnScope ["_law_words"] [] (defScope s__law_barred) := ⟨rfl, rfl, rfl, by decide +kernel, rfl, by decide +kernel, by decide +kernel⟩
abbrev s__law_unlike : Stmt := topS 20
abbrev N__law_unlike : List Str := ["_law_words", "_law_letters", "_law_found", "_law_word"]
theorem sc__law_unlike : FnScope ["_law_words", "_law_letters", "_law_found", "_law_word"] ["_law_words"] (defScope s__law_unlike) := ⟨rfl, rfl, rfl, by decide +kernel, rfl, by decide +kernel, by decide +kernel⟩
abbrev s__law_names : Stmt := topS 21
abbrev N__law_names : List Str := ["_law_well_here", "_law_many", "_law_letters", "_law_base", "_law_way", "_law_long", "_law_at", "_law_words", "_law_k", "_law_sign", "_law_word", "_law_size", "_law_some_here", "_law_j"]
theorem sc__law_names : FnScope ["_law_well_here", "_law_many", "_law_letters", "_law_base", "_law_way", "_law_long", "_law_at", "_law_words", "_law_k", "_law_sign", "_law_word", "_law_size", "_law_some_here", "_law_j"] ["_law_well_here", "_law_many"] (defScope s__law_names) := ⟨rfl, rfl, rfl, by decide +kernel, rfl, by decide +kernel, by decide +kernel⟩
abbrev s__law_some : Stmt := topS 22
abbrev N__law_some : List Str := ["_law_well_here", "_law_pool", "_law_many", "_law_start", "_law_step", "_law_k"]
theorem sc__law_some : FnScope ["_law_well_here", "_law_pool", "_law_many", "_law_start", "_law_step", "_law_k"] ["_law_well_here", "_law_pool", "_law_many"] (defScope s__law_some) := ⟨rfl, rfl, rfl, by decide +kernel, rfl, by decide +kernel, by decide +kernel⟩
abbrev s__law_outs : Stmt := topS 23
abbrev N__law_outs : List Str := ["_law_well_here", "_law_pool", "_law_states", "_law_here", "_law_kinds", "_law_spare", "_law_many", "_law_looks", "_law_outs_here", "_law_answer", "_law_there", "_law_gives"]
theorem sc__law_outs : FnScope ["_law_well_here", "_law_pool", "_law_states", "_law_here", "_law_kinds", "_law_spare", "_law_many", "_law_looks", "_law_outs_here", "_law_answer", "_law_there", "_law_gives"] ["_law_well_here", "_law_pool", "_law_states", "_law_here", "_law_kinds", "_law_spare"] (defScope s__law_outs) := ⟨rfl, rfl, rfl, by decide +kernel, rfl, by decide +kernel, by decide +kernel⟩
abbrev s__law_state : Stmt := topS 24
abbrev N__law_state : List Str := ["_law_well_here", "_law_pool", "_law_states", "_law_here", "_law_kinds", "_law_spare", "_law_many", "_law_rest", "_law_deeds", "_law_deed", "_law_outs_here"]
theorem sc__law_state : FnScope ["_law_well_here", "_law_pool", "_law_states", "_law_here", "_law_kinds", "_law_spare", "_law_many", "_law_rest", "_law_deeds", "_law_deed", "_law_outs_here"] ["_law_well_here", "_law_pool", "_law_states", "_law_here", "_law_kinds", "_law_spare"] (defScope s__law_state) := ⟨rfl, rfl, rfl, by decide +kernel, rfl, by decide +kernel, by decide +kernel⟩
abbrev s__law_kind : Stmt := topS 25
abbrev N__law_kind : List Str := ["_law_well_here", "_law_pool", "_law_name", "_law_kinds", "_law_most", "_law_many", "_law_states", "_law_spare", "_law_found", "_law_here"]
theorem sc__law_kind : FnScope ["_law_well_here", "_law_pool", "_law_name", "_law_kinds", "_law_most", "_law_many", "_law_states", "_law_spare", "_law_found", "_law_here"] ["_law_well_here", "_law_pool", "_law_name", "_law_kinds", "_law_most"] (defScope s__law_kind) := ⟨rfl, rfl, rfl, by decide +kernel, rfl, by decide +kernel, by decide +kernel⟩
abbrev s__law_is_name : Stmt := topS 26
abbrev N__law_is_name : List Str := ["_law_thing", "_law_sign"]
theorem sc__law_is_name : FnScope ["_law_thing", "_law_sign"] ["_law_thing"] (defScope s__law_is_name) := ⟨rfl, rfl, rfl, by decide +kernel, rfl, by decide +kernel, by decide +kernel⟩
abbrev s__law_row_of : Stmt := topS 27
abbrev N__law_row_of : List Str := ["_law_thing", "_law_low", "_law_high"]
theorem sc__law_row_of : FnScope ["_law_thing", "_law_low", "_law_high"] ["_law_thing", "_law_low", "_law_high"] (defScope s__law_row_of) := ⟨rfl, rfl, rfl, by decide +kernel, rfl, by decide +kernel, by decide +kernel⟩
abbrev s__law_twice : Stmt := topS 28
abbrev N__law_twice : List Str := ["_law_names_here", "_law_k", "_law_name"]
theorem sc__law_twice : FnScope ["_law_names_here", "_law_k", "_law_name"] ["_law_names_here"] (defScope s__law_twice) := ⟨rfl, rfl, rfl, by decide +kernel, rfl, by decide +kernel, by decide +kernel⟩
abbrev s__law_out_right : Stmt := topS 29
abbrev N__law_out_right : List Str := ["_law_out"]
theorem sc__law_out_right : FnScope ["_law_out"] ["_law_out"] (defScope s__law_out_right) := ⟨rfl, rfl, rfl, by decide +kernel, rfl, by decide +kernel, by decide +kernel⟩
abbrev s__law_deed_right : Stmt := topS 30
abbrev N__law_deed_right : List Str := ["_law_deed", "_law_out"]
theorem sc__law_deed_right : FnScope ["_law_deed", "_law_out"] ["_law_deed"] (defScope s__law_deed_right) := ⟨rfl, rfl, rfl, by decide +kernel, rfl, by decide +kernel, by decide +kernel⟩
abbrev s__law_state_right : Stmt := topS 31
abbrev N__law_state_right : List Str := ["_law_state_here", "_law_deed"]
theorem sc__law_state_right : FnScope ["_law_state_here", "_law_deed"] ["_law_state_here"] (defScope s__law_state_right) := ⟨rfl, rfl, rfl, by decide +kernel, rfl, by decide +kernel, by decide +kernel⟩
abbrev s__law_is_kind : Stmt := topS 32
abbrev N__law_is_kind : List Str := ["_law_thing", "_law_states", "_law_state_here", "_law_rest", "_law_deeds", "_law_deed", "_law_outs_here", "_law_out"]
theorem sc__law_is_kind : FnScope ["_law_thing", "_law_states", "_law_state_here", "_law_rest", "_law_deeds", "_law_deed", "_law_outs_here", "_law_out"] ["_law_thing"] (defScope s__law_is_kind) := ⟨rfl, rfl, rfl, by decide +kernel, rfl, by decide +kernel, by decide +kernel⟩
abbrev s__law_odd : Stmt := topS 33
abbrev N__law_odd : List Str := ["_law_well_here", "_law_pool", "_law_name", "_law_things"]
theorem sc__law_odd : FnScope ["_law_well_here", "_law_pool", "_law_name", "_law_things"] ["_law_well_here", "_law_pool"] (defScope s__law_odd) := ⟨rfl, rfl, rfl, by decide +kernel, rfl, by decide +kernel, by decide +kernel⟩
abbrev s__law_bent : Stmt := topS 34
abbrev N__law_bent : List Str := ["_law_well_here", "_law_thing", "_law_pool", "_law_other", "_law_way", "_law_at", "_law_pair"]
theorem sc__law_bent : FnScope ["_law_well_here", "_law_thing", "_law_pool", "_law_other", "_law_way", "_law_at", "_law_pair"] ["_law_well_here", "_law_thing", "_law_pool", "_law_other"] (defScope s__law_bent) := ⟨rfl, rfl, rfl, by decide +kernel, rfl, by decide +kernel, by decide +kernel⟩
abbrev s__law_spoilt : Stmt := topS 35
abbrev N__law_spoilt : List Str := ["_law_well_here", "_law_thing", "_law_pool", "_law_deep", "_law_inner", "_law_path", "_law_at", "_law_gives", "_law_one"]
theorem sc__law_spoilt : FnScope ["_law_well_here", "_law_thing", "_law_pool", "_law_deep", "_law_inner", "_law_path", "_law_at", "_law_gives", "_law_one"] ["_law_well_here", "_law_thing", "_law_pool", "_law_deep"] (defScope s__law_spoilt) := ⟨rfl, rfl, rfl, by decide +kernel, rfl, by decide +kernel, by decide +kernel⟩
abbrev s__law_more : Stmt := topS 36
abbrev N__law_more : List Str := ["_law_well_here", "_law_pool", "_law_way", "_law_at", "_law_plain", "_law_deeds", "_law_outs_here", "_law_out", "_law_name"]
theorem sc__law_more : FnScope ["_law_well_here", "_law_pool", "_law_way", "_law_at", "_law_plain", "_law_deeds", "_law_outs_here", "_law_out", "_law_name"] ["_law_well_here", "_law_pool"] (defScope s__law_more) := ⟨rfl, rfl, rfl, by decide +kernel, rfl, by decide +kernel, by decide +kernel⟩
abbrev s_law : Stmt := topS 37
abbrev N_law : List Str := ["_law_script", "_law_well_here", "_law_pool", "_law_kind_here", "_law_thing", "_law_k", "_law_turn", "_law_found"]
theorem sc_law : FnScope ["_law_script", "_law_well_here", "_law_pool", "_law_kind_here", "_law_thing", "_law_k", "_law_turn", "_law_found"] ["_law_script"] (defScope s_law) := ⟨rfl, rfl, rfl, by decide +kernel, rfl, by decide +kernel, by decide +kernel⟩
def table : List (Str × List Str) := [("is_name", ["thing"]), ("are_unlike", ["names"]), ("is_maybe", ["thing"]), ("is_out", ["thing"]), ("is_deed", ["thing"]), ("is_state", ["thing"]), ("all_outs", ["kind"]), ("is_kind", ["thing"]), ("_law_well", ["_law_script", "_law_k"]), ("_law_take", ["_law_well_here", "_law_many"]), ("_law_barred", []), ("_law_unlike", ["_law_words"]), ("_law_names", ["_law_well_here", "_law_many"]), ("_law_some", ["_law_well_here", "_law_pool", "_law_many"]), ("_law_outs", ["_law_well_here", "_law_pool", "_law_states", "_law_here", "_law_kinds", "_law_spare"]), ("_law_state", ["_law_well_here", "_law_pool", "_law_states", "_law_here", "_law_kinds", "_law_spare"]), ("_law_kind", ["_law_well_here", "_law_pool", "_law_name", "_law_kinds", "_law_most"]), ("_law_is_name", ["_law_thing"]), ("_law_row_of", ["_law_thing", "_law_low", "_law_high"]), ("_law_twice", ["_law_names_here"]), ("_law_out_right", ["_law_out"]), ("_law_deed_right", ["_law_deed"]), ("_law_state_right", ["_law_state_here"]), ("_law_is_kind", ["_law_thing"]), ("_law_odd", ["_law_well_here", "_law_pool"]), ("_law_bent", ["_law_well_here", "_law_thing", "_law_pool", "_law_other"]), ("_law_spoilt", ["_law_well_here", "_law_thing", "_law_pool", "_law_deep"]), ("_law_more", ["_law_well_here", "_law_pool"]), ("law", ["_law_script"])]
theorem boot_all' : bootBuiltins "all" = some (.builtin "all") := by decide +kernel
theorem boot_bool' : bootBuiltins "bool" = some (.type "bool") := by decide +kernel
theorem boot_int' : bootBuiltins "int" = some (.type "int") := by decide +kernel
theorem boot_isinstance' : bootBuiltins "isinstance" = some (.builtin "isinstance") := by decide +kernel
theorem boot_len' : bootBuiltins "len" = some (.builtin "len") := by decide +kernel
theorem boot_list' : bootBuiltins "list" = some (.type "list") := by decide +kernel
theorem boot_max' : bootBuiltins "max" = some (.builtin "max") := by decide +kernel
theorem boot_min' : bootBuiltins "min" = some (.builtin "min") := by decide +kernel
theorem boot_set' : bootBuiltins "set" = some (.type "set") := by decide +kernel
theorem boot_str' : bootBuiltins "str" = some (.type "str") := by decide +kernel
theorem boot_tuple' : bootBuiltins "tuple" = some (.type "tuple") := by decide +kernel
structure Glob (K : PySem.W.Frag) (mg : Str → Option Value) : Prop where
  z_all : mg "all" = none
  z_bool : mg "bool" = none
  z_enumerate : mg "enumerate" = none
  z_int : mg "int" = none
  z_isinstance : mg "isinstance" = none
  z_len : mg "len" = none
  z_list : mg "list" = none
  z_max : mg "max" = none
  z_min : mg "min" = none
  z_range : mg "range" = none
  z_set : mg "set" = none
  z_str : mg "str" = none
  z_tuple : mg "tuple" = none
  g_TONGUE : GlV K mg "TONGUE" k_TONGUE
  g_LETTERS : GlV K mg "LETTERS" k_LETTERS
  g_MOST_LETTERS : GlV K mg "MOST_LETTERS" k_MOST_LETTERS
  g_MOST_STATES : GlV K mg "MOST_STATES" k_MOST_STATES
  g_MOST_DEEDS : GlV K mg "MOST_DEEDS" k_MOST_DEEDS
  g_MOST_OUTS : GlV K mg "MOST_OUTS" k_MOST_OUTS
section
variable {P : Program} {w : World} {K : PySem.W.Frag} {mg : Str → Option Value} {base : Heap}
def HC (P : Program) (w : World) (K : PySem.W.Frag) (mg : Str → Option Value) (base : Heap) (n : Nat) (c : Calls) : Prop := ∀ j x ps, table[j]? = some (x, ps) → FnAt P w K mg base n x ps (c j)
theorem d_is_name {n : Nat} {c : Calls} (G : Glob K mg) (hc : HC P w K mg base n c) {f : Addr} {fd : FuncData} (F : FunD K "is_name" "is_name" (defArgs s_is_name) (defBody s_is_name) (defScope s_is_name) [] [] f fd) : FnOk P w K mg base (L2.CX P w) (n + 1) f fd ["thing"] (spF K (cmM mg) 1 (fnV 1 2 (b_is_name c))) := by
  refine fn_ok F sc_is_name (b_is_name c) fun cdv A outer s H E hr tk po => ?_
  have hu := hu_of' hr
  have hu1 := hu_1 hr
  have nd := sc_is_name.nd
  have g_LETTERS := G.g_LETTERS
  have g_MOST_LETTERS := G.g_MOST_LETTERS
  have g_TONGUE := G.g_TONGUE
  have z_all := G.z_all
  have z_isinstance := G.z_isinstance
  have z_len := G.z_len
  have z_str := G.z_str
  exact (ss_seq (ss_if ((st_or (st_not (st_truth (sv_isi (sv_var (pv 0)) (by rfl) z_isinstance boot_isinstance' (by rfl) z_str boot_str') (fun _ => rfl))) (st_or (st_not (st_chn os_le os_le sv_int (sv_callB cs_len (by rfl) z_len boot_len' (sa_cons (sv_var (pv 0)) sa_nil)) (sv_glob g_MOST_LETTERS (by rfl)))) (st_one_or (st_cmp (os_in hu) (sv_var (pv 0)) (sv_glob g_TONGUE (by rfl)) (by with_unfolding_all rfl)))))).pt (ss_seq (ss_ret sv_bl)
    ss_nil) ss_nil)
    (ss_seq (ss_ret (sv_callBL (cs_all rfl) (by rfl) z_all boot_all' (sl_comp (own := [("sign", 1)]) rfl nd (si_val (sv_var (pv 0))) (blkOk_by (N := N_is_name) (sc := defScope s_is_name) (by decide +kernel)) (fun _ _ _ _ _ => (sg_name nd (by rfl) (by first | exact .inl rfl | exact .inr rfl))) (fun _ _ _ _ _ => tts_nil) (fun _ _ _ _ _ => (sv_cmp (os_in hu) (sv_var (pv 1)) (sv_glob g_LETTERS (by rfl)) (by with_unfolding_all rfl))))))
    ss_nil))
theorem d_are_unlike {n : Nat} {c : Calls} (G : Glob K mg) (hc : HC P w K mg base n c) {f : Addr} {fd : FuncData} (F : FunD K "are_unlike" "are_unlike" (defArgs s_are_unlike) (defBody s_are_unlike) (defScope s_are_unlike) [] [] f fd) : FnOk P w K mg base (L2.CX P w) (n + 1) f fd ["names"] (spF K (cmM mg) 1 (fnV 1 1 (b_are_unlike c))) := by
  refine fn_ok F sc_are_unlike (b_are_unlike c) fun cdv A outer s H E hr tk po => ?_
  have hu := hu_of' hr
  have hu1 := hu_1 hr
  have nd := sc_are_unlike.nd
  have z_len := G.z_len
  have z_set := G.z_set
  exact (ss_seq (ss_ret (sv_cmp (os_eq hu) (sv_lenSet rfl (by rfl) z_len (by rfl) z_set (sv_var (pv 0))) (sv_callB cs_len (by rfl) z_len boot_len' (sa_cons (sv_var (pv 0)) sa_nil)) (nomark _)))
    ss_nil)
theorem d_is_maybe {n : Nat} {c : Calls} (G : Glob K mg) (hc : HC P w K mg base n c) {f : Addr} {fd : FuncData} (F : FunD K "is_maybe" "is_maybe" (defArgs s_is_maybe) (defBody s_is_maybe) (defScope s_is_maybe) [] [] f fd) : FnOk P w K mg base (L2.CX P w) (n + 1) f fd ["thing"] (spF K (cmM mg) 1 (fnV 1 1 (b_is_maybe c))) := by
  refine fn_ok F sc_is_maybe (b_is_maybe c) fun cdv A outer s H E hr tk po => ?_
  have hu := hu_of' hr
  have hu1 := hu_1 hr
  have nd := sc_is_maybe.nd
  exact (ss_seq (ss_ret (sv_or (sv_cmp os_is (sv_var (pv 0)) sv_non (nomark _)) (sv_one (sv_callF (hc 0 "is_name" ["thing"] rfl) hr (pass_take tk) (by rfl) (vlen_cons vlen_nil) (sa_cons (sv_var (pv 0)) sa_nil)))))
    ss_nil)
theorem d_is_out {n : Nat} {c : Calls} (G : Glob K mg) (hc : HC P w K mg base n c) {f : Addr} {fd : FuncData} (F : FunD K "is_out" "is_out" (defArgs s_is_out) (defBody s_is_out) (defScope s_is_out) [] [] f fd) : FnOk P w K mg base (L2.CX P w) (n + 1) f fd ["thing"] (spF K (cmM mg) 1 (fnV 1 1 (b_is_out c))) := by
  refine fn_ok F sc_is_out (b_is_out c) fun cdv A outer s H E hr tk po => ?_
  have hu := hu_of' hr
  have hu1 := hu_1 hr
  have nd := sc_is_out.nd
  have z_isinstance := G.z_isinstance
  have z_len := G.z_len
  have z_tuple := G.z_tuple
  exact (ss_seq (ss_if ((st_or (st_not (st_truth (sv_isi (sv_var (pv 0)) (by rfl) z_isinstance boot_isinstance' (by rfl) z_tuple boot_tuple') (fun _ => rfl))) (st_one_or (st_cmp (os_ne hu) (sv_callB cs_len (by rfl) z_len boot_len' (sa_cons (sv_var (pv 0)) sa_nil)) sv_int (nomark _))))).pt (ss_seq (ss_ret sv_bl)
    ss_nil) ss_nil)
    (ss_seq (ss_ret (sv_and (sv_callF (hc 0 "is_name" ["thing"] rfl) hr (pass_take tk) (by rfl) (vlen_cons vlen_nil) (sa_cons (sv_idx (sv_var (pv 0)) sv_int (fun _ _ => rfl)) sa_nil)) (sv_and (sv_callF (hc 2 "is_maybe" ["thing"] rfl) hr (pass_take tk) (by rfl) (vlen_cons vlen_nil) (sa_cons (sv_idx (sv_var (pv 0)) sv_int (fun _ _ => rfl)) sa_nil)) (sv_one (sv_callF (hc 2 "is_maybe" ["thing"] rfl) hr (pass_take tk) (by rfl) (vlen_cons vlen_nil) (sa_cons (sv_idx (sv_var (pv 0)) sv_int (fun _ _ => rfl)) sa_nil))))))
    ss_nil))
theorem d_is_deed {n : Nat} {c : Calls} (G : Glob K mg) (hc : HC P w K mg base n c) {f : Addr} {fd : FuncData} (F : FunD K "is_deed" "is_deed" (defArgs s_is_deed) (defBody s_is_deed) (defScope s_is_deed) [] [] f fd) : FnOk P w K mg base (L2.CX P w) (n + 1) f fd ["thing"] (spF K (cmM mg) 1 (fnV 1 5 (b_is_deed c))) := by
  refine fn_ok F sc_is_deed (b_is_deed c) fun cdv A outer s H E hr tk po => ?_
  have hu := hu_of' hr
  have hu1 := hu_1 hr
  have nd := sc_is_deed.nd
  have g_MOST_OUTS := G.g_MOST_OUTS
  have z_all := G.z_all
  have z_isinstance := G.z_isinstance
  have z_len := G.z_len
  have z_tuple := G.z_tuple
  exact (ss_seq (ss_if ((st_or (st_not (st_truth (sv_isi (sv_var (pv 0)) (by rfl) z_isinstance boot_isinstance' (by rfl) z_tuple boot_tuple') (fun _ => rfl))) (st_or (st_cmp (os_ne hu) (sv_callB cs_len (by rfl) z_len boot_len' (sa_cons (sv_var (pv 0)) sa_nil)) sv_int (nomark _)) (st_or (st_not (st_truth (sv_callF (hc 0 "is_name" ["thing"] rfl) hr (pass_take tk) (by rfl) (vlen_cons vlen_nil) (sa_cons (sv_idx (sv_var (pv 0)) sv_int (fun _ _ => rfl)) sa_nil)) (fun _ => rfl))) (st_one_or (st_not (st_truth (sv_isi (sv_idx (sv_var (pv 0)) sv_int (fun _ _ => rfl)) (by rfl) z_isinstance boot_isinstance' (by rfl) z_tuple boot_tuple') (fun _ => rfl)))))))).pt (ss_seq (ss_ret sv_bl)
    ss_nil) ss_nil)
    (ss_seq (ss_if ((st_or (st_not (st_chn os_le os_le sv_int (sv_callB cs_len (by rfl) z_len boot_len' (sa_cons (sv_idx (sv_var (pv 0)) sv_int (fun _ _ => rfl)) sa_nil)) (sv_glob g_MOST_OUTS (by rfl)))) (st_one_or (st_not (st_truth (sv_callBL (cs_all rfl) (by rfl) z_all boot_all' (sl_comp (own := [("out", 1)]) rfl nd (si_val (sv_idx (sv_var (pv 0)) sv_int (fun _ _ => rfl))) (blkOk_by (N := N_is_deed) (sc := defScope s_is_deed) (by decide +kernel)) (fun _ _ _ _ _ => (sg_name nd (by rfl) (by first | exact .inl rfl | exact .inr rfl))) (fun _ _ _ _ _ => tts_nil) (fun _ _ _ _ _ => (sv_callF (hc 3 "is_out" ["thing"] rfl) hr pass_none (by rfl) (vlen_cons vlen_nil) (sa_cons (sv_var (pv 1)) sa_nil))))) (fun _ => rfl)))))).pt (ss_seq (ss_ret sv_bl)
    ss_nil) ss_nil)
    (ss_seq (ss_ret (sv_callF (hc 1 "are_unlike" ["names"] rfl) hr (pass_take tk) (by rfl) (vlen_cons vlen_nil) (sa_cons (sv_new (sl_comp (own := [("answer", 2), ("there", 3), ("made", 4)]) rfl nd (si_val (sv_idx (sv_var (pv 0)) sv_int (fun _ _ => rfl))) (blkOk_by (N := N_is_deed) (sc := defScope s_is_deed) (by decide +kernel)) (fun _ _ _ _ _ => (sg_tup rfl (sg_cons (sg_name nd (by rfl) (by first | exact .inl rfl | exact .inr rfl)) (sg_cons (sg_name nd (by rfl) (by first | exact .inl rfl | exact .inr rfl)) (sg_cons (sg_name nd (by rfl) (by first | exact .inl rfl | exact .inr rfl)) sg_nil))) (by rfl) (by rfl) (tgl_cons (tgl_cons (tgl_cons tgl_nil))))) (fun _ _ _ _ _ => tts_nil) (fun _ _ _ _ _ => (sv_var (pv 2))))) sa_nil)))
    ss_nil)))
theorem d_is_state {n : Nat} {c : Calls} (G : Glob K mg) (hc : HC P w K mg base n c) {f : Addr} {fd : FuncData} (F : FunD K "is_state" "is_state" (defArgs s_is_state) (defBody s_is_state) (defScope s_is_state) [] [] f fd) : FnOk P w K mg base (L2.CX P w) (n + 1) f fd ["thing"] (spF K (cmM mg) 1 (fnV 1 3 (b_is_state c))) := by
  refine fn_ok F sc_is_state (b_is_state c) fun cdv A outer s H E hr tk po => ?_
  have hu := hu_of' hr
  have hu1 := hu_1 hr
  have nd := sc_is_state.nd
  have g_MOST_DEEDS := G.g_MOST_DEEDS
  have z_all := G.z_all
  have z_bool := G.z_bool
  have z_isinstance := G.z_isinstance
  have z_len := G.z_len
  have z_tuple := G.z_tuple
  exact (ss_seq (ss_if ((st_or (st_not (st_truth (sv_isi (sv_var (pv 0)) (by rfl) z_isinstance boot_isinstance' (by rfl) z_tuple boot_tuple') (fun _ => rfl))) (st_or (st_cmp (os_ne hu) (sv_callB cs_len (by rfl) z_len boot_len' (sa_cons (sv_var (pv 0)) sa_nil)) sv_int (nomark _)) (st_or (st_not (st_truth (sv_callF (hc 0 "is_name" ["thing"] rfl) hr (pass_take tk) (by rfl) (vlen_cons vlen_nil) (sa_cons (sv_idx (sv_var (pv 0)) sv_int (fun _ _ => rfl)) sa_nil)) (fun _ => rfl))) (st_one_or (st_not (st_truth (sv_isi (sv_idx (sv_var (pv 0)) sv_int (fun _ _ => rfl)) (by rfl) z_isinstance boot_isinstance' (by rfl) z_bool boot_bool') (fun _ => rfl)))))))).pt (ss_seq (ss_ret sv_bl)
    ss_nil) ss_nil)
    (ss_seq (ss_if ((st_or (st_not (st_truth (sv_isi (sv_idx (sv_var (pv 0)) sv_int (fun _ _ => rfl)) (by rfl) z_isinstance boot_isinstance' (by rfl) z_tuple boot_tuple') (fun _ => rfl))) (st_or (st_cmp os_gt (sv_callB cs_len (by rfl) z_len boot_len' (sa_cons (sv_idx (sv_var (pv 0)) sv_int (fun _ _ => rfl)) sa_nil)) (sv_glob g_MOST_DEEDS (by rfl)) (nomark _)) (st_one_or (st_not (st_truth (sv_callBL (cs_all rfl) (by rfl) z_all boot_all' (sl_comp (own := [("deed", 1)]) rfl nd (si_val (sv_idx (sv_var (pv 0)) sv_int (fun _ _ => rfl))) (blkOk_by (N := N_is_state) (sc := defScope s_is_state) (by decide +kernel)) (fun _ _ _ _ _ => (sg_name nd (by rfl) (by first | exact .inl rfl | exact .inr rfl))) (fun _ _ _ _ _ => tts_nil) (fun _ _ _ _ _ => (sv_callF (hc 4 "is_deed" ["thing"] rfl) hr pass_none (by rfl) (vlen_cons vlen_nil) (sa_cons (sv_var (pv 1)) sa_nil))))) (fun _ => rfl))))))).pt (ss_seq (ss_ret sv_bl)
    ss_nil) ss_nil)
    (ss_seq (ss_ret (sv_callF (hc 1 "are_unlike" ["names"] rfl) hr (pass_take tk) (by rfl) (vlen_cons vlen_nil) (sa_cons (sv_new (sl_comp (own := [("deed", 1), ("outs", 2)]) rfl nd (si_val (sv_idx (sv_var (pv 0)) sv_int (fun _ _ => rfl))) (blkOk_by (N := N_is_state) (sc := defScope s_is_state) (by decide +kernel)) (fun _ _ _ _ _ => (sg_tup rfl (sg_cons (sg_name nd (by rfl) (by first | exact .inl rfl | exact .inr rfl)) (sg_cons (sg_name nd (by rfl) (by first | exact .inl rfl | exact .inr rfl)) sg_nil)) (by rfl) (by rfl) (tgl_cons (tgl_cons tgl_nil)))) (fun _ _ _ _ _ => tts_nil) (fun _ _ _ _ _ => (sv_var (pv 1))))) sa_nil)))
    ss_nil)))
theorem d_all_outs {n : Nat} {c : Calls} (G : Glob K mg) (hc : HC P w K mg base n c) {f : Addr} {fd : FuncData} (F : FunD K "all_outs" "all_outs" (defArgs s_all_outs) (defBody s_all_outs) (defScope s_all_outs) [] [] f fd) : FnOk P w K mg base (L2.CX P w) (n + 1) f fd ["kind"] (spF K (cmM mg) 1 (fnV 1 7 (b_all_outs c))) := by
  refine fn_ok F sc_all_outs (b_all_outs c) fun cdv A outer s H E hr tk po => ?_
  have hu := hu_of' hr
  have hu1 := hu_1 hr
  have nd := sc_all_outs.nd
  exact (ss_seq (ss_set (i := 1) nd rfl (by first | exact .inl rfl | exact .inr rfl) (sv_new (sl_disp sa_nil)))
    (ss_seq (ss_for po rfl (si_val (sv_idx (sv_var (pv 0)) sv_int (fun _ _ => rfl))) (sg_tup rfl (sg_cons (sg_name nd (by rfl) (by first | exact .inl rfl | exact .inr rfl)) (sg_cons (sg_name nd (by rfl) (by first | exact .inl rfl | exact .inr rfl)) (sg_cons (sg_name nd (by rfl) (by first | exact .inl rfl | exact .inr rfl)) sg_nil))) (by rfl) (by rfl) (tgl_cons (tgl_cons (tgl_cons tgl_nil)))) (ss_seq (ss_for po rfl (si_val (sv_var (pv 4))) (sg_tup rfl (sg_cons (sg_name nd (by rfl) (by first | exact .inl rfl | exact .inr rfl)) (sg_cons (sg_name nd (by rfl) (by first | exact .inl rfl | exact .inr rfl)) sg_nil)) (by rfl) (by rfl) (tgl_cons (tgl_cons tgl_nil))) (ss_seq (ss_expr (sv_extendV (sv_var (pv 1)) (sv_var (pv 6))))
    ss_nil))
    ss_nil))
    (ss_seq (ss_ret (sv_var (pv 1)))
    ss_nil)))
theorem d_is_kind {n : Nat} {c : Calls} (G : Glob K mg) (hc : HC P w K mg base n c) {f : Addr} {fd : FuncData} (F : FunD K "is_kind" "is_kind" (defArgs s_is_kind) (defBody s_is_kind) (defScope s_is_kind) [] [] f fd) : FnOk P w K mg base (L2.CX P w) (n + 1) f fd ["thing"] (spF K (cmM mg) 1 (fnV 1 8 (b_is_kind c))) := by
  refine fn_ok F sc_is_kind (b_is_kind c) fun cdv A outer s H E hr tk po => ?_
  have hu := hu_of' hr
  have hu1 := hu_1 hr
  have nd := sc_is_kind.nd
  have g_MOST_STATES := G.g_MOST_STATES
  have z_all := G.z_all
  have z_isinstance := G.z_isinstance
  have z_len := G.z_len
  have z_tuple := G.z_tuple
  exact (ss_seq (ss_if ((st_or (st_not (st_truth (sv_isi (sv_var (pv 0)) (by rfl) z_isinstance boot_isinstance' (by rfl) z_tuple boot_tuple') (fun _ => rfl))) (st_or (st_cmp (os_ne hu) (sv_callB cs_len (by rfl) z_len boot_len' (sa_cons (sv_var (pv 0)) sa_nil)) sv_int (nomark _)) (st_or (st_not (st_truth (sv_callF (hc 0 "is_name" ["thing"] rfl) hr (pass_take tk) (by rfl) (vlen_cons vlen_nil) (sa_cons (sv_idx (sv_var (pv 0)) sv_int (fun _ _ => rfl)) sa_nil)) (fun _ => rfl))) (st_one_or (st_not (st_truth (sv_isi (sv_idx (sv_var (pv 0)) sv_int (fun _ _ => rfl)) (by rfl) z_isinstance boot_isinstance' (by rfl) z_tuple boot_tuple') (fun _ => rfl)))))))).pt (ss_seq (ss_ret sv_bl)
    ss_nil) ss_nil)
    (ss_seq (ss_if ((st_or (st_not (st_chn os_le os_le sv_int (sv_callB cs_len (by rfl) z_len boot_len' (sa_cons (sv_idx (sv_var (pv 0)) sv_int (fun _ _ => rfl)) sa_nil)) (sv_glob g_MOST_STATES (by rfl)))) (st_one_or (st_not (st_truth (sv_callBL (cs_all rfl) (by rfl) z_all boot_all' (sl_comp (own := [("state", 2)]) rfl nd (si_val (sv_idx (sv_var (pv 0)) sv_int (fun _ _ => rfl))) (blkOk_by (N := N_is_kind) (sc := defScope s_is_kind) (by decide +kernel)) (fun _ _ _ _ _ => (sg_name nd (by rfl) (by first | exact .inl rfl | exact .inr rfl))) (fun _ _ _ _ _ => tts_nil) (fun _ _ _ _ _ => (sv_callF (hc 5 "is_state" ["thing"] rfl) hr pass_none (by rfl) (vlen_cons vlen_nil) (sa_cons (sv_var (pv 2)) sa_nil))))) (fun _ => rfl)))))).pt (ss_seq (ss_ret sv_bl)
    ss_nil) ss_nil)
    (ss_seq (ss_set (i := 1) nd rfl (by first | exact .inl rfl | exact .inr rfl) (sv_new (sl_comp (own := [("state", 2), ("rest", 3), ("deeds", 4)]) rfl nd (si_val (sv_idx (sv_var (pv 0)) sv_int (fun _ _ => rfl))) (blkOk_by (N := N_is_kind) (sc := defScope s_is_kind) (by decide +kernel)) (fun _ _ _ _ _ => (sg_tup rfl (sg_cons (sg_name nd (by rfl) (by first | exact .inl rfl | exact .inr rfl)) (sg_cons (sg_name nd (by rfl) (by first | exact .inl rfl | exact .inr rfl)) (sg_cons (sg_name nd (by rfl) (by first | exact .inl rfl | exact .inr rfl)) sg_nil))) (by rfl) (by rfl) (tgl_cons (tgl_cons (tgl_cons tgl_nil))))) (fun _ _ _ _ _ => tts_nil) (fun _ _ _ _ _ => (sv_var (pv 2))))))
    (ss_seq (ss_if (st_not (st_truth (sv_callF (hc 1 "are_unlike" ["names"] rfl) hr (pass_take tk) (by rfl) (vlen_cons vlen_nil) (sa_cons (sv_var (pv 1)) sa_nil)) (fun _ => rfl))) (ss_seq (ss_ret sv_bl)
    ss_nil) ss_nil)
    (ss_seq (ss_ret (sv_callBL (cs_all rfl) (by rfl) z_all boot_all' (sl_comp (own := [("answer", 5), ("there", 6), ("made", 7)]) rfl nd (si_val (sv_callF (hc 6 "all_outs" ["kind"] rfl) hr (pass_take tk) (by rfl) (vlen_cons vlen_nil) (sa_cons (sv_var (pv 0)) sa_nil))) (blkOk_by (N := N_is_kind) (sc := defScope s_is_kind) (by decide +kernel)) (fun _ _ _ _ _ => (sg_tup rfl (sg_cons (sg_name nd (by rfl) (by first | exact .inl rfl | exact .inr rfl)) (sg_cons (sg_name nd (by rfl) (by first | exact .inl rfl | exact .inr rfl)) (sg_cons (sg_name nd (by rfl) (by first | exact .inl rfl | exact .inr rfl)) sg_nil))) (by rfl) (by rfl) (tgl_cons (tgl_cons (tgl_cons tgl_nil))))) (fun _ _ _ _ _ => tts_nil) (fun _ _ _ _ _ => (sv_or (sv_cmp os_is (sv_var (pv 6)) sv_non (nomark _)) (sv_one (sv_cmp (os_in hu) (sv_var (pv 6)) (sv_var (pv 1)) (by with_unfolding_all rfl))))))))
    ss_nil)))))
theorem d__law_well {n : Nat} {c : Calls} (G : Glob K mg) (hc : HC P w K mg base n c) {f : Addr} {fd : FuncData} (F : FunD K "_law_well" "_law_well" (defArgs s__law_well) (defBody s__law_well) (defScope s__law_well) [] [] f fd) : FnOk P w K mg base (L2.CX P w) (n + 1) f fd ["_law_script", "_law_k"] (spF K (cmM mg) 2 (fnV 2 3 (b__law_well c))) := by
  refine fn_ok F sc__law_well (b__law_well c) fun cdv A outer s H E hr tk po => ?_
  have hu := hu_of' hr
  have hu1 := hu_1 hr
  have nd := sc__law_well.nd
  have z_int := G.z_int
  have z_len := G.z_len
  exact (ss_seq (ss_set (i := 2) nd rfl (by first | exact .inl rfl | exact .inr rfl) sv_int)
    (ss_seq (ss_if (st_cmp os_lt (sv_var (pv 1)) (sv_callB cs_len (by rfl) z_len boot_len' (sa_cons (sv_var (pv 0)) sa_nil)) (nomark _)) (ss_seq (ss_set (i := 2) nd rfl (by first | exact .inl rfl | exact .inr rfl) (sv_idx (sv_var (pv 0)) (sv_var (pv 1)) (fun _ _ => rfl)))
    ss_nil) ss_nil)
    (ss_seq (ss_ret (sv_new (sl_disp (sa_cons (sv_bin os_mul (sv_var (pv 2)) (sv_callT cs_int (by rfl) z_int boot_int' (sa_cons (sv_cmp os_ge (sv_var (pv 2)) (sv_bin os_pow sv_int sv_int) (nomark _)) sa_nil))) (sa_cons (sv_bin os_add (sv_bin os_mod (sv_var (pv 2)) sv_int) (sv_bin os_mul sv_int (sv_var (pv 1)))) (sa_cons sv_int sa_nil))))))
    ss_nil)))
theorem d__law_take {n : Nat} {c : Calls} (G : Glob K mg) (hc : HC P w K mg base n c) {f : Addr} {fd : FuncData} (F : FunD K "_law_take" "_law_take" (defArgs s__law_take) (defBody s__law_take) (defScope s__law_take) [] [] f fd) : FnOk P w K mg base (L2.CX P w) (n + 1) f fd ["_law_well_here", "_law_many"] (spF K (cmM mg) 2 (fnV 2 4 (b__law_take c))) := by
  refine fn_ok F sc__law_take (b__law_take c) fun cdv A outer s H E hr tk po => ?_
  have hu := hu_of' hr
  have hu1 := hu_1 hr
  have nd := sc__law_take.nd
  exact (ss_seq (ss_if (st_cmp os_gt (sv_idx (sv_var (pv 0)) sv_int (fun _ _ => rfl)) sv_int (nomark _)) (ss_seq (ss_set (i := 2) nd rfl (by first | exact .inl rfl | exact .inr rfl) (sv_bin os_mod (sv_idx (sv_var (pv 0)) sv_int (fun _ _ => rfl)) (sv_var (pv 1))))
    (ss_seq (ss_sub hu1 (sv_bin os_div (sv_idx (sv_var (pv 0)) sv_int (fun _ _ => rfl)) (sv_var (pv 1))) (sv_var (pv 0)) sv_int)
    (ss_seq (ss_ret (sv_var (pv 2)))
    ss_nil))) ss_nil)
    (ss_seq (ss_sub hu1 (sv_bin os_add (sv_idx (sv_var (pv 0)) sv_int (fun _ _ => rfl)) sv_int) (sv_var (pv 0)) sv_int)
    (ss_seq (ss_set (i := 3) nd rfl (by first | exact .inl rfl | exact .inr rfl) (sv_bin os_mod (sv_bin os_mul (sv_bin os_add (sv_idx (sv_var (pv 0)) sv_int (fun _ _ => rfl)) (sv_bin os_mul sv_int (sv_idx (sv_var (pv 0)) sv_int (fun _ _ => rfl)))) sv_int) sv_int))
    (ss_seq (ss_ret (sv_bin os_mod (sv_bin os_div (sv_bin os_mod (sv_bin os_mul (sv_var (pv 3)) (sv_bin os_add (sv_var (pv 3)) sv_int)) sv_int) sv_int) (sv_var (pv 1))))
    ss_nil))))
theorem d__law_barred {n : Nat} {c : Calls} (G : Glob K mg) (hc : HC P w K mg base n c) {f : Addr} {fd : FuncData} (F : FunD K "_law_barred" "_law_barred" (defArgs s__law_barred) (defBody s__law_barred) (defScope s__law_barred) [] [] f fd) : FnOk P w K mg base (L2.CX P w) (n + 1) f fd [] (spF K (cmM mg) 0 (fnV 0 1 (b__law_barred c))) := by
  refine fn_ok F sc__law_barred (b__law_barred c) fun cdv A outer s H E hr tk po => ?_
  have hu := hu_of' hr
  have hu1 := hu_1 hr
  have nd := sc__law_barred.nd
  exact (ss_seq (ss_set (i := 0) nd rfl (by first | exact .inl rfl | exact .inr rfl) sv_str)
    (ss_seq (ss_ret (sv_new (sl_sm PySem.F.slot_str_split PySem.F.type_str_split ms_split (sv_var (pv 0)) (sa_cons sv_str sa_nil))))
    ss_nil))
theorem d__law_unlike {n : Nat} {c : Calls} (G : Glob K mg) (hc : HC P w K mg base n c) {f : Addr} {fd : FuncData} (F : FunD K "_law_unlike" "_law_unlike" (defArgs s__law_unlike) (defBody s__law_unlike) (defScope s__law_unlike) [] [] f fd) : FnOk P w K mg base (L2.CX P w) (n + 1) f fd ["_law_words"] (spF K (cmM mg) 1 (fnV 1 4 (b__law_unlike c))) := by
  refine fn_ok F sc__law_unlike (b__law_unlike c) fun cdv A outer s H E hr tk po => ?_
  have hu := hu_of' hr
  have hu1 := hu_1 hr
  have nd := sc__law_unlike.nd
  exact (ss_seq (ss_set (i := 1) nd rfl (by first | exact .inl rfl | exact .inr rfl) sv_str)
    (ss_seq (ss_set (i := 2) nd rfl (by first | exact .inl rfl | exact .inr rfl) (sv_new (sl_disp sa_nil)))
    (ss_seq (ss_for po rfl (si_val (sv_var (pv 0))) (sg_name nd (by rfl) (by first | exact .inl rfl | exact .inr rfl)) (ss_seq (ss_while po ((st_or (st_cmp (os_in hu) (sv_var (pv 3)) (sv_var (pv 2)) (by with_unfolding_all rfl)) (st_one_or (st_cmp (os_in hu) (sv_var (pv 3)) (sv_callF0 (hc 10 "_law_barred" [] rfl) hr (by rfl)) (by with_unfolding_all rfl))))).pt (ss_seq (ss_set (i := 3) nd rfl (by first | exact .inl rfl | exact .inr rfl) (sv_bin os_add (sv_idx (sv_var (pv 1)) (sv_bin os_mod (sv_bin os_add (sv_sm PySem.F.slot_str_index PySem.F.type_str_index ms_index (sv_var (pv 1)) (sa_cons (sv_idx (sv_var (pv 3)) sv_int (fun _ _ => rfl)) sa_nil)) sv_int) sv_int) (fun _ _ => rfl)) (sv_slc (sv_var (pv 3)) (so_some sv_int) so_none)))
    ss_nil))
    (ss_seq (ss_expr (sv_lm PySem.F.slot_list_append PySem.F.type_list_append ms_append (sv_var (pv 2)) (sa_cons (sv_var (pv 3)) sa_nil)))
    ss_nil)))
    (ss_seq (ss_ret (sv_var (pv 2)))
    ss_nil))))
theorem d__law_names {n : Nat} {c : Calls} (G : Glob K mg) (hc : HC P w K mg base n c) {f : Addr} {fd : FuncData} (F : FunD K "_law_names" "_law_names" (defArgs s__law_names) (defBody s__law_names) (defScope s__law_names) [] [] f fd) : FnOk P w K mg base (L2.CX P w) (n + 1) f fd ["_law_well_here", "_law_many"] (spF K (cmM mg) 2 (fnV 2 14 (b__law_names c))) := by
  refine fn_ok F sc__law_names (b__law_names c) fun cdv A outer s H E hr tk po => ?_
  have hu := hu_of' hr
  have hu1 := hu_1 hr
  have nd := sc__law_names.nd
  have z_range := G.z_range
  exact (ss_seq (ss_set (i := 2) nd rfl (by first | exact .inl rfl | exact .inr rfl) sv_str)
    (ss_seq (ss_set (i := 3) nd rfl (by first | exact .inl rfl | exact .inr rfl) (sv_smL PySem.F.slot_str_join PySem.F.type_str_join ms_join sv_str (sl_comp (own := [("_law_k", 8)]) rfl nd (si_range1 (by rfl) z_range (sa_cons sv_int sa_nil) (fun _ _ _ _ h => vs1_len h)) (blkOk_by (N := N__law_names) (sc := defScope s__law_names) (by decide +kernel)) (fun _ _ _ _ _ => (sg_name nd (by rfl) (by first | exact .inl rfl | exact .inr rfl))) (fun _ _ _ _ _ => tts_nil) (fun _ _ _ _ _ => (sv_idx (sv_var (pv 2)) (sv_callF (hc 9 "_law_take" ["_law_well_here", "_law_many"] rfl) hr pass_none (by rfl) (vlen_cons (vlen_cons vlen_nil)) (sa_cons (sv_var (pv 0)) (sa_cons sv_int sa_nil))) (fun _ _ => rfl))))))
    (ss_seq (ss_set (i := 4) nd rfl (by first | exact .inl rfl | exact .inr rfl) (sv_callF (hc 9 "_law_take" ["_law_well_here", "_law_many"] rfl) hr (pass_take tk) (by rfl) (vlen_cons (vlen_cons vlen_nil)) (sa_cons (sv_var (pv 0)) (sa_cons sv_int sa_nil))))
    (ss_seq (ss_set (i := 5) nd rfl (by first | exact .inl rfl | exact .inr rfl) (sv_bin os_add sv_int (sv_callF (hc 9 "_law_take" ["_law_well_here", "_law_many"] rfl) hr (pass_take tk) (by rfl) (vlen_cons (vlen_cons vlen_nil)) (sa_cons (sv_var (pv 0)) (sa_cons sv_int sa_nil)))))
    (ss_seq (ss_set (i := 6) nd rfl (by first | exact .inl rfl | exact .inr rfl) (sv_callF (hc 9 "_law_take" ["_law_well_here", "_law_many"] rfl) hr (pass_take tk) (by rfl) (vlen_cons (vlen_cons vlen_nil)) (sa_cons (sv_var (pv 0)) (sa_cons (sv_var (pv 5)) sa_nil))))
    (ss_seq (ss_set (i := 7) nd rfl (by first | exact .inl rfl | exact .inr rfl) (sv_new (sl_disp sa_nil)))
    (ss_seq (ss_for po rfl (si_range1 (by rfl) z_range (sa_cons (sv_var (pv 1)) sa_nil) (fun _ _ _ _ h => vs1_len h)) (sg_name nd (by rfl) (by first | exact .inl rfl | exact .inr rfl)) (ss_seq (ss_set (i := 9) nd rfl (by first | exact .inl rfl | exact .inr rfl) (sv_idx (sv_var (pv 2)) (sv_bin os_mod (sv_bin os_add (sv_sm PySem.F.slot_str_index PySem.F.type_str_index ms_index (sv_var (pv 2)) (sa_cons (sv_idx (sv_var (pv 3)) (sv_var (pv 6)) (fun _ _ => rfl)) sa_nil)) (sv_var (pv 8))) sv_int) (fun _ _ => rfl)))
    (ss_seq (ss_set (i := 10) nd rfl (by first | exact .inl rfl | exact .inr rfl) (sv_bin os_add (sv_bin os_add (sv_slc (sv_var (pv 3)) so_none (so_some (sv_var (pv 6)))) (sv_var (pv 9))) (sv_slc (sv_var (pv 3)) (so_some (sv_bin os_add (sv_var (pv 6)) sv_int)) (so_some (sv_var (pv 5))))))
    (ss_seq (ss_if (st_cmp (os_eq hu) (sv_var (pv 4)) sv_int (nomark _)) (ss_seq (ss_set (i := 10) nd rfl (by first | exact .inl rfl | exact .inr rfl) (sv_slc (sv_var (pv 3)) so_none (so_some (sv_bin os_add sv_int (sv_bin os_mod (sv_var (pv 8)) sv_int)))))
    ss_nil) (ss_seq (ss_if (st_cmp (os_eq hu) (sv_var (pv 4)) sv_int (nomark _)) (ss_seq (ss_set (i := 11) nd rfl (by first | exact .inl rfl | exact .inr rfl) (sv_bin os_add sv_int (sv_callF (hc 9 "_law_take" ["_law_well_here", "_law_many"] rfl) hr (pass_take tk) (by rfl) (vlen_cons (vlen_cons vlen_nil)) (sa_cons (sv_var (pv 0)) (sa_cons sv_int sa_nil)))))
    (ss_seq (ss_set (i := 10) nd rfl (by first | exact .inl rfl | exact .inr rfl) (sv_smL PySem.F.slot_str_join PySem.F.type_str_join ms_join sv_str (sl_comp (own := [("_law_j", 13)]) rfl nd (si_range1 (by rfl) z_range (sa_cons (sv_var (pv 11)) sa_nil) (fun _ _ _ _ h => vs1_len h)) (blkOk_by (N := N__law_names) (sc := defScope s__law_names) (by decide +kernel)) (fun _ _ _ _ _ => (sg_name nd (by rfl) (by first | exact .inl rfl | exact .inr rfl))) (fun _ _ _ _ _ => tts_nil) (fun _ _ _ _ _ => (sv_idx (sv_var (pv 2)) (sv_callF (hc 9 "_law_take" ["_law_well_here", "_law_many"] rfl) hr pass_none (by rfl) (vlen_cons (vlen_cons vlen_nil)) (sa_cons (sv_var (pv 0)) (sa_cons sv_int sa_nil))) (fun _ _ => rfl))))))
    ss_nil)) ss_nil)
    ss_nil))
    (ss_seq (ss_expr (sv_lm PySem.F.slot_list_append PySem.F.type_list_append ms_append (sv_var (pv 7)) (sa_cons (sv_var (pv 10)) sa_nil)))
    ss_nil)))))
    (ss_seq (ss_if (st_cmp (os_eq hu) (sv_callF (hc 9 "_law_take" ["_law_well_here", "_law_many"] rfl) hr (pass_take tk) (by rfl) (vlen_cons (vlen_cons vlen_nil)) (sa_cons (sv_var (pv 0)) (sa_cons sv_int sa_nil))) sv_int (nomark _)) (ss_seq (ss_set (i := 12) nd rfl (by first | exact .inl rfl | exact .inr rfl) (sv_new (sl_disp (sa_cons sv_str (sa_cons sv_str (sa_cons sv_str (sa_cons sv_str (sa_cons sv_str (sa_cons sv_str sa_nil)))))))))
    (ss_seq (ss_sub hu1 (sv_idx (sv_var (pv 12)) (sv_callF (hc 9 "_law_take" ["_law_well_here", "_law_many"] rfl) hr (pass_take tk) (by rfl) (vlen_cons (vlen_cons vlen_nil)) (sa_cons (sv_var (pv 0)) (sa_cons sv_int sa_nil))) (fun _ _ => rfl)) (sv_var (pv 7)) (sv_callF (hc 9 "_law_take" ["_law_well_here", "_law_many"] rfl) hr (pass_take tk) (by rfl) (vlen_cons (vlen_cons vlen_nil)) (sa_cons (sv_var (pv 0)) (sa_cons (sv_var (pv 1)) sa_nil))))
    ss_nil)) ss_nil)
    (ss_seq (ss_ret (sv_callF (hc 11 "_law_unlike" ["_law_words"] rfl) hr (pass_take tk) (by rfl) (vlen_cons vlen_nil) (sa_cons (sv_var (pv 7)) sa_nil)))
    ss_nil)))))))))
theorem d__law_some {n : Nat} {c : Calls} (G : Glob K mg) (hc : HC P w K mg base n c) {f : Addr} {fd : FuncData} (F : FunD K "_law_some" "_law_some" (defArgs s__law_some) (defBody s__law_some) (defScope s__law_some) [] [] f fd) : FnOk P w K mg base (L2.CX P w) (n + 1) f fd ["_law_well_here", "_law_pool", "_law_many"] (spF K (cmM mg) 3 (fnV 3 6 (b__law_some c))) := by
  refine fn_ok F sc__law_some (b__law_some c) fun cdv A outer s H E hr tk po => ?_
  have hu := hu_of' hr
  have hu1 := hu_1 hr
  have nd := sc__law_some.nd
  have z_range := G.z_range
  exact (ss_seq (ss_set (i := 3) nd rfl (by first | exact .inl rfl | exact .inr rfl) (sv_callF (hc 9 "_law_take" ["_law_well_here", "_law_many"] rfl) hr (pass_take tk) (by rfl) (vlen_cons (vlen_cons vlen_nil)) (sa_cons (sv_var (pv 0)) (sa_cons sv_int sa_nil))))
    (ss_seq (ss_set (i := 4) nd rfl (by first | exact .inl rfl | exact .inr rfl) (sv_idx (sv_new (sl_disp (sa_cons sv_int (sa_cons sv_int (sa_cons sv_int (sa_cons sv_int sa_nil)))))) (sv_callF (hc 9 "_law_take" ["_law_well_here", "_law_many"] rfl) hr (pass_take tk) (by rfl) (vlen_cons (vlen_cons vlen_nil)) (sa_cons (sv_var (pv 0)) (sa_cons sv_int sa_nil))) (fun _ _ => rfl)))
    (ss_seq (ss_ret (sv_new (sl_comp (own := [("_law_k", 5)]) rfl nd (si_range1 (by rfl) z_range (sa_cons (sv_var (pv 2)) sa_nil) (fun _ _ _ _ h => vs1_len h)) (blkOk_by (N := N__law_some) (sc := defScope s__law_some) (by decide +kernel)) (fun _ _ _ _ _ => (sg_name nd (by rfl) (by first | exact .inl rfl | exact .inr rfl))) (fun _ _ _ _ _ => tts_nil) (fun _ _ _ _ _ => (sv_idx (sv_var (pv 1)) (sv_bin os_mod (sv_bin os_add (sv_var (pv 3)) (sv_bin os_mul (sv_var (pv 4)) (sv_var (pv 5)))) sv_int) (fun _ _ => rfl))))))
    ss_nil)))
theorem d__law_outs {n : Nat} {c : Calls} (G : Glob K mg) (hc : HC P w K mg base n c) {f : Addr} {fd : FuncData} (F : FunD K "_law_outs" "_law_outs" (defArgs s__law_outs) (defBody s__law_outs) (defScope s__law_outs) [] [] f fd) : FnOk P w K mg base (L2.CX P w) (n + 1) f fd ["_law_well_here", "_law_pool", "_law_states", "_law_here", "_law_kinds", "_law_spare"] (spF K (cmM mg) 6 (fnV 6 12 (b__law_outs c))) := by
  refine fn_ok F sc__law_outs (b__law_outs c) fun cdv A outer s H E hr tk po => ?_
  have hu := hu_of' hr
  have hu1 := hu_1 hr
  have nd := sc__law_outs.nd
  have z_len := G.z_len
  have z_min := G.z_min
  have z_tuple := G.z_tuple
  exact (ss_seq (ss_set (i := 6) nd rfl (by first | exact .inl rfl | exact .inr rfl) (sv_bin os_add sv_int (sv_callF (hc 9 "_law_take" ["_law_well_here", "_law_many"] rfl) hr (pass_take tk) (by rfl) (vlen_cons (vlen_cons vlen_nil)) (sa_cons (sv_var (pv 0)) (sa_cons sv_int sa_nil)))))
    (ss_seq (ss_if (st_cmp (os_eq hu) (sv_callF (hc 9 "_law_take" ["_law_well_here", "_law_many"] rfl) hr (pass_take tk) (by rfl) (vlen_cons (vlen_cons vlen_nil)) (sa_cons (sv_var (pv 0)) (sa_cons sv_int sa_nil))) sv_int (nomark _)) (ss_seq (ss_set (i := 6) nd rfl (by first | exact .inl rfl | exact .inr rfl) sv_int)
    ss_nil) ss_nil)
    (ss_seq (ss_set (i := 6) nd rfl (by first | exact .inl rfl | exact .inr rfl) (sv_callB (cs_min rfl) (by rfl) z_min boot_min' (sa_cons (sv_var (pv 6)) (sa_cons (sv_idx (sv_var (pv 5)) sv_int (fun _ _ => rfl)) sa_nil))))
    (ss_seq (ss_sub hu1 (sv_bin os_sub (sv_idx (sv_var (pv 5)) sv_int (fun _ _ => rfl)) (sv_var (pv 6))) (sv_var (pv 5)) sv_int)
    (ss_seq (ss_set (i := 7) nd rfl (by first | exact .inl rfl | exact .inr rfl) (sv_cmp (os_eq hu) (sv_callF (hc 9 "_law_take" ["_law_well_here", "_law_many"] rfl) hr (pass_take tk) (by rfl) (vlen_cons (vlen_cons vlen_nil)) (sa_cons (sv_var (pv 0)) (sa_cons sv_int sa_nil))) sv_int (nomark _)))
    (ss_seq (ss_set (i := 8) nd rfl (by first | exact .inl rfl | exact .inr rfl) (sv_new (sl_disp sa_nil)))
    (ss_seq (ss_for po rfl (si_val (sv_callF (hc 13 "_law_some" ["_law_well_here", "_law_pool", "_law_many"] rfl) hr (pass_take tk) (by rfl) (vlen_cons (vlen_cons (vlen_cons vlen_nil))) (sa_cons (sv_var (pv 0)) (sa_cons (sv_var (pv 1)) (sa_cons (sv_var (pv 6)) sa_nil))))) (sg_name nd (by rfl) (by first | exact .inl rfl | exact .inr rfl)) (ss_seq (ss_set (i := 10) nd rfl (by first | exact .inl rfl | exact .inr rfl) (sv_idx (sv_new (sl_cat (sl_val (sv_var (pv 2))) (sl_disp (sa_cons sv_non sa_nil)))) (sv_callF (hc 9 "_law_take" ["_law_well_here", "_law_many"] rfl) hr (pass_take tk) (by rfl) (vlen_cons (vlen_cons vlen_nil)) (sa_cons (sv_var (pv 0)) (sa_cons (sv_bin os_add (sv_callB cs_len (by rfl) z_len boot_len' (sa_cons (sv_var (pv 2)) sa_nil)) sv_int) sa_nil))) (fun _ _ => rfl)))
    (ss_seq (ss_set (i := 11) nd rfl (by first | exact .inl rfl | exact .inr rfl) sv_non)
    (ss_seq (ss_if ((st_and (st_cmp (os_eq hu) (sv_callF (hc 9 "_law_take" ["_law_well_here", "_law_many"] rfl) hr (pass_take tk) (by rfl) (vlen_cons (vlen_cons vlen_nil)) (sa_cons (sv_var (pv 0)) (sa_cons sv_int sa_nil))) sv_int (nomark _)) (st_one_and (st_neL hu (sl_val (sv_var (pv 4))) (sl_disp sa_nil) (nomark _))))).pt (ss_seq (ss_set (i := 11) nd rfl (by first | exact .inl rfl | exact .inr rfl) (sv_idx (sv_var (pv 4)) (sv_callF (hc 9 "_law_take" ["_law_well_here", "_law_many"] rfl) hr (pass_take tk) (by rfl) (vlen_cons (vlen_cons vlen_nil)) (sa_cons (sv_var (pv 0)) (sa_cons (sv_callB cs_len (by rfl) z_len boot_len' (sa_cons (sv_var (pv 4)) sa_nil)) sa_nil))) (fun _ _ => rfl)))
    ss_nil) ss_nil)
    (ss_seq (ss_if (st_truth (sv_var (pv 7)) (fun _ => rfl)) (ss_seq (ss_set (i := 10) nd rfl (by first | exact .inl rfl | exact .inr rfl) (sv_var (pv 3)))
    (ss_seq (ss_set (i := 11) nd rfl (by first | exact .inl rfl | exact .inr rfl) sv_non)
    ss_nil)) ss_nil)
    (ss_seq (ss_expr (sv_lm PySem.F.slot_list_append PySem.F.type_list_append ms_append (sv_var (pv 8)) (sa_cons (sv_tup (sa_cons (sv_var (pv 9)) (sa_cons (sv_var (pv 10)) (sa_cons (sv_var (pv 11)) sa_nil)))) sa_nil)))
    ss_nil))))))
    (ss_seq (ss_ret (sv_callT cs_tup (by rfl) z_tuple boot_tuple' (sa_cons (sv_var (pv 8)) sa_nil)))
    ss_nil))))))))
theorem d__law_state {n : Nat} {c : Calls} (G : Glob K mg) (hc : HC P w K mg base n c) {f : Addr} {fd : FuncData} (F : FunD K "_law_state" "_law_state" (defArgs s__law_state) (defBody s__law_state) (defScope s__law_state) [] [] f fd) : FnOk P w K mg base (L2.CX P w) (n + 1) f fd ["_law_well_here", "_law_pool", "_law_states", "_law_here", "_law_kinds", "_law_spare"] (spF K (cmM mg) 6 (fnV 6 11 (b__law_state c))) := by
  refine fn_ok F sc__law_state (b__law_state c) fun cdv A outer s H E hr tk po => ?_
  have hu := hu_of' hr
  have hu1 := hu_1 hr
  have nd := sc__law_state.nd
  have z_tuple := G.z_tuple
  exact (ss_seq (ss_set (i := 6) nd rfl (by first | exact .inl rfl | exact .inr rfl) (sv_callF (hc 9 "_law_take" ["_law_well_here", "_law_many"] rfl) hr (pass_take tk) (by rfl) (vlen_cons (vlen_cons vlen_nil)) (sa_cons (sv_var (pv 0)) (sa_cons sv_int sa_nil))))
    (ss_seq (ss_if (st_cmp (os_eq hu) (sv_callF (hc 9 "_law_take" ["_law_well_here", "_law_many"] rfl) hr (pass_take tk) (by rfl) (vlen_cons (vlen_cons vlen_nil)) (sa_cons (sv_var (pv 0)) (sa_cons sv_int sa_nil))) sv_int (nomark _)) (ss_seq (ss_set (i := 6) nd rfl (by first | exact .inl rfl | exact .inr rfl) sv_int)
    ss_nil) ss_nil)
    (ss_seq (ss_set (i := 7) nd rfl (by first | exact .inl rfl | exact .inr rfl) (sv_cmp (os_eq hu) (sv_callF (hc 9 "_law_take" ["_law_well_here", "_law_many"] rfl) hr (pass_take tk) (by rfl) (vlen_cons (vlen_cons vlen_nil)) (sa_cons (sv_var (pv 0)) (sa_cons sv_int sa_nil))) sv_int (nomark _)))
    (ss_seq (ss_set (i := 8) nd rfl (by first | exact .inl rfl | exact .inr rfl) (sv_new (sl_disp sa_nil)))
    (ss_seq (ss_for po rfl (si_val (sv_callF (hc 13 "_law_some" ["_law_well_here", "_law_pool", "_law_many"] rfl) hr (pass_take tk) (by rfl) (vlen_cons (vlen_cons (vlen_cons vlen_nil))) (sa_cons (sv_var (pv 0)) (sa_cons (sv_var (pv 1)) (sa_cons (sv_var (pv 6)) sa_nil))))) (sg_name nd (by rfl) (by first | exact .inl rfl | exact .inr rfl)) (ss_seq (ss_if (st_cmp os_gt (sv_idx (sv_var (pv 5)) sv_int (fun _ _ => rfl)) sv_int (nomark _)) (ss_seq (ss_set (i := 10) nd rfl (by first | exact .inl rfl | exact .inr rfl) (sv_callF (hc 14 "_law_outs" ["_law_well_here", "_law_pool", "_law_states", "_law_here", "_law_kinds", "_law_spare"] rfl) hr (pass_take tk) (by rfl) (vlen_cons (vlen_cons (vlen_cons (vlen_cons (vlen_cons (vlen_cons vlen_nil)))))) (sa_cons (sv_var (pv 0)) (sa_cons (sv_var (pv 1)) (sa_cons (sv_var (pv 2)) (sa_cons (sv_var (pv 3)) (sa_cons (sv_var (pv 4)) (sa_cons (sv_var (pv 5)) sa_nil))))))))
    (ss_seq (ss_expr (sv_lm PySem.F.slot_list_append PySem.F.type_list_append ms_append (sv_var (pv 8)) (sa_cons (sv_tup (sa_cons (sv_var (pv 9)) (sa_cons (sv_var (pv 10)) sa_nil))) sa_nil)))
    ss_nil)) ss_nil)
    ss_nil))
    (ss_seq (ss_ret (sv_tup (sa_cons (sv_var (pv 3)) (sa_cons (sv_var (pv 7)) (sa_cons (sv_callT cs_tup (by rfl) z_tuple boot_tuple' (sa_cons (sv_var (pv 8)) sa_nil)) sa_nil)))))
    ss_nil))))))
theorem d__law_kind {n : Nat} {c : Calls} (G : Glob K mg) (hc : HC P w K mg base n c) {f : Addr} {fd : FuncData} (F : FunD K "_law_kind" "_law_kind" (defArgs s__law_kind) (defBody s__law_kind) (defScope s__law_kind) [] [] f fd) : FnOk P w K mg base (L2.CX P w) (n + 1) f fd ["_law_well_here", "_law_pool", "_law_name", "_law_kinds", "_law_most"] (spF K (cmM mg) 5 (fnV 5 10 (b__law_kind c))) := by
  refine fn_ok F sc__law_kind (b__law_kind c) fun cdv A outer s H E hr tk po => ?_
  have hu := hu_of' hr
  have hu1 := hu_1 hr
  have nd := sc__law_kind.nd
  have z_tuple := G.z_tuple
  exact (ss_seq (ss_set (i := 5) nd rfl (by first | exact .inl rfl | exact .inr rfl) (sv_bin os_add sv_int (sv_callF (hc 9 "_law_take" ["_law_well_here", "_law_many"] rfl) hr (pass_take tk) (by rfl) (vlen_cons (vlen_cons vlen_nil)) (sa_cons (sv_var (pv 0)) (sa_cons sv_int sa_nil)))))
    (ss_seq (ss_if (st_cmp (os_eq hu) (sv_callF (hc 9 "_law_take" ["_law_well_here", "_law_many"] rfl) hr (pass_take tk) (by rfl) (vlen_cons (vlen_cons vlen_nil)) (sa_cons (sv_var (pv 0)) (sa_cons sv_int sa_nil))) sv_int (nomark _)) (ss_seq (ss_set (i := 5) nd rfl (by first | exact .inl rfl | exact .inr rfl) sv_int)
    ss_nil) ss_nil)
    (ss_seq (ss_set (i := 6) nd rfl (by first | exact .inl rfl | exact .inr rfl) (sv_callF (hc 13 "_law_some" ["_law_well_here", "_law_pool", "_law_many"] rfl) hr (pass_take tk) (by rfl) (vlen_cons (vlen_cons (vlen_cons vlen_nil))) (sa_cons (sv_var (pv 0)) (sa_cons (sv_var (pv 1)) (sa_cons (sv_var (pv 5)) sa_nil)))))
    (ss_seq (ss_set (i := 7) nd rfl (by first | exact .inl rfl | exact .inr rfl) (sv_new (sl_disp (sa_cons (sv_var (pv 4)) sa_nil))))
    (ss_seq (ss_set (i := 8) nd rfl (by first | exact .inl rfl | exact .inr rfl) (sv_new (sl_disp sa_nil)))
    (ss_seq (ss_for po rfl (si_val (sv_var (pv 6))) (sg_name nd (by rfl) (by first | exact .inl rfl | exact .inr rfl)) (ss_seq (ss_expr (sv_lm PySem.F.slot_list_append PySem.F.type_list_append ms_append (sv_var (pv 8)) (sa_cons (sv_callF (hc 15 "_law_state" ["_law_well_here", "_law_pool", "_law_states", "_law_here", "_law_kinds", "_law_spare"] rfl) hr (pass_take tk) (by rfl) (vlen_cons (vlen_cons (vlen_cons (vlen_cons (vlen_cons (vlen_cons vlen_nil)))))) (sa_cons (sv_var (pv 0)) (sa_cons (sv_var (pv 1)) (sa_cons (sv_var (pv 6)) (sa_cons (sv_var (pv 9)) (sa_cons (sv_var (pv 3)) (sa_cons (sv_var (pv 7)) sa_nil))))))) sa_nil)))
    ss_nil))
    (ss_seq (ss_ret (sv_tup (sa_cons (sv_var (pv 2)) (sa_cons (sv_callT cs_tup (by rfl) z_tuple boot_tuple' (sa_cons (sv_var (pv 8)) sa_nil)) sa_nil))))
    ss_nil)))))))
theorem d__law_is_name {n : Nat} {c : Calls} (G : Glob K mg) (hc : HC P w K mg base n c) {f : Addr} {fd : FuncData} (F : FunD K "_law_is_name" "_law_is_name" (defArgs s__law_is_name) (defBody s__law_is_name) (defScope s__law_is_name) [] [] f fd) : FnOk P w K mg base (L2.CX P w) (n + 1) f fd ["_law_thing"] (spF K (cmM mg) 1 (fnV 1 2 (b__law_is_name c))) := by
  refine fn_ok F sc__law_is_name (b__law_is_name c) fun cdv A outer s H E hr tk po => ?_
  have hu := hu_of' hr
  have hu1 := hu_1 hr
  have nd := sc__law_is_name.nd
  have z_isinstance := G.z_isinstance
  have z_len := G.z_len
  have z_str := G.z_str
  exact (ss_seq (ss_if ((st_or (st_not (st_truth (sv_isi (sv_var (pv 0)) (by rfl) z_isinstance boot_isinstance' (by rfl) z_str boot_str') (fun _ => rfl))) (st_or (st_cmp os_lt (sv_callB cs_len (by rfl) z_len boot_len' (sa_cons (sv_var (pv 0)) sa_nil)) sv_int (nomark _)) (st_or (st_cmp os_gt (sv_callB cs_len (by rfl) z_len boot_len' (sa_cons (sv_var (pv 0)) sa_nil)) sv_int (nomark _)) (st_one_or (st_cmp (os_in hu) (sv_var (pv 0)) (sv_callF0 (hc 10 "_law_barred" [] rfl) hr (by rfl)) (by with_unfolding_all rfl))))))).pt (ss_seq (ss_ret sv_bl)
    ss_nil) ss_nil)
    (ss_seq (ss_ret (sv_eqL hu (sl_comp (own := [("_law_sign", 1)]) rfl nd (si_val (sv_var (pv 0))) (blkOk_by (N := N__law_is_name) (sc := defScope s__law_is_name) (by decide +kernel)) (fun _ _ _ _ _ => (sg_name nd (by rfl) (by first | exact .inl rfl | exact .inr rfl))) (fun _ _ _ _ _ => (tts_one (st_cmp (os_notIn hu) (sv_var (pv 1)) sv_str (by with_unfolding_all rfl)))) (fun _ _ _ _ _ => (sv_var (pv 1)))) (sl_disp sa_nil) (nomark _)))
    ss_nil))
theorem d__law_row_of {n : Nat} {c : Calls} (G : Glob K mg) (hc : HC P w K mg base n c) {f : Addr} {fd : FuncData} (F : FunD K "_law_row_of" "_law_row_of" (defArgs s__law_row_of) (defBody s__law_row_of) (defScope s__law_row_of) [] [] f fd) : FnOk P w K mg base (L2.CX P w) (n + 1) f fd ["_law_thing", "_law_low", "_law_high"] (spF K (cmM mg) 3 (fnV 3 3 (b__law_row_of c))) := by
  refine fn_ok F sc__law_row_of (b__law_row_of c) fun cdv A outer s H E hr tk po => ?_
  have hu := hu_of' hr
  have hu1 := hu_1 hr
  have nd := sc__law_row_of.nd
  have z_isinstance := G.z_isinstance
  have z_len := G.z_len
  have z_tuple := G.z_tuple
  exact (ss_seq (ss_ret (sv_and (sv_isi (sv_var (pv 0)) (by rfl) z_isinstance boot_isinstance' (by rfl) z_tuple boot_tuple') (sv_and (sv_cmp os_le (sv_var (pv 1)) (sv_callB cs_len (by rfl) z_len boot_len' (sa_cons (sv_var (pv 0)) sa_nil)) (nomark _)) (sv_one (sv_cmp os_le (sv_callB cs_len (by rfl) z_len boot_len' (sa_cons (sv_var (pv 0)) sa_nil)) (sv_var (pv 2)) (nomark _))))))
    ss_nil)
theorem d__law_twice {n : Nat} {c : Calls} (G : Glob K mg) (hc : HC P w K mg base n c) {f : Addr} {fd : FuncData} (F : FunD K "_law_twice" "_law_twice" (defArgs s__law_twice) (defBody s__law_twice) (defScope s__law_twice) [] [] f fd) : FnOk P w K mg base (L2.CX P w) (n + 1) f fd ["_law_names_here"] (spF K (cmM mg) 1 (fnV 1 3 (b__law_twice c))) := by
  refine fn_ok F sc__law_twice (b__law_twice c) fun cdv A outer s H E hr tk po => ?_
  have hu := hu_of' hr
  have hu1 := hu_1 hr
  have nd := sc__law_twice.nd
  have z_enumerate := G.z_enumerate
  exact (ss_seq (ss_ret (sv_neL hu (sl_comp (own := [("_law_k", 1), ("_law_name", 2)]) rfl nd (si_enum (by rfl) z_enumerate (sv_var (pv 0))) (blkOk_by (N := N__law_twice) (sc := defScope s__law_twice) (by decide +kernel)) (fun _ _ _ _ _ => (sg_tup rfl (sg_cons (sg_name nd (by rfl) (by first | exact .inl rfl | exact .inr rfl)) (sg_cons (sg_name nd (by rfl) (by first | exact .inl rfl | exact .inr rfl)) sg_nil)) (by rfl) (by rfl) (tgl_cons (tgl_cons tgl_nil)))) (fun _ _ _ _ _ => (tts_one (st_cmp (os_in hu) (sv_var (pv 2)) (sv_new (sl_slc (sv_var (pv 0)) so_none (so_some (sv_var (pv 1))))) (by with_unfolding_all rfl)))) (fun _ _ _ _ _ => (sv_var (pv 2)))) (sl_disp sa_nil) (nomark _)))
    ss_nil)
theorem d__law_out_right {n : Nat} {c : Calls} (G : Glob K mg) (hc : HC P w K mg base n c) {f : Addr} {fd : FuncData} (F : FunD K "_law_out_right" "_law_out_right" (defArgs s__law_out_right) (defBody s__law_out_right) (defScope s__law_out_right) [] [] f fd) : FnOk P w K mg base (L2.CX P w) (n + 1) f fd ["_law_out"] (spF K (cmM mg) 1 (fnV 1 1 (b__law_out_right c))) := by
  refine fn_ok F sc__law_out_right (b__law_out_right c) fun cdv A outer s H E hr tk po => ?_
  have hu := hu_of' hr
  have hu1 := hu_1 hr
  have nd := sc__law_out_right.nd
  exact (ss_seq (ss_if ((st_or (st_not (st_truth (sv_callF (hc 18 "_law_row_of" ["_law_thing", "_law_low", "_law_high"] rfl) hr (pass_take tk) (by rfl) (vlen_cons (vlen_cons (vlen_cons vlen_nil))) (sa_cons (sv_var (pv 0)) (sa_cons sv_int (sa_cons sv_int sa_nil)))) (fun _ => rfl))) (st_one_or (st_not (st_truth (sv_callF (hc 17 "_law_is_name" ["_law_thing"] rfl) hr (pass_take tk) (by rfl) (vlen_cons vlen_nil) (sa_cons (sv_idx (sv_var (pv 0)) sv_int (fun _ _ => rfl)) sa_nil)) (fun _ => rfl)))))).pt (ss_seq (ss_ret sv_bl)
    ss_nil) ss_nil)
    (ss_seq (ss_ret (sv_and (sv_or (sv_cmp os_is (sv_idx (sv_var (pv 0)) sv_int (fun _ _ => rfl)) sv_non (nomark _)) (sv_one (sv_callF (hc 17 "_law_is_name" ["_law_thing"] rfl) hr (pass_take tk) (by rfl) (vlen_cons vlen_nil) (sa_cons (sv_idx (sv_var (pv 0)) sv_int (fun _ _ => rfl)) sa_nil)))) (sv_one (sv_or (sv_cmp os_is (sv_idx (sv_var (pv 0)) sv_int (fun _ _ => rfl)) sv_non (nomark _)) (sv_one (sv_callF (hc 17 "_law_is_name" ["_law_thing"] rfl) hr (pass_take tk) (by rfl) (vlen_cons vlen_nil) (sa_cons (sv_idx (sv_var (pv 0)) sv_int (fun _ _ => rfl)) sa_nil)))))))
    ss_nil))
theorem d__law_deed_right {n : Nat} {c : Calls} (G : Glob K mg) (hc : HC P w K mg base n c) {f : Addr} {fd : FuncData} (F : FunD K "_law_deed_right" "_law_deed_right" (defArgs s__law_deed_right) (defBody s__law_deed_right) (defScope s__law_deed_right) [] [] f fd) : FnOk P w K mg base (L2.CX P w) (n + 1) f fd ["_law_deed"] (spF K (cmM mg) 1 (fnV 1 2 (b__law_deed_right c))) := by
  refine fn_ok F sc__law_deed_right (b__law_deed_right c) fun cdv A outer s H E hr tk po => ?_
  have hu := hu_of' hr
  have hu1 := hu_1 hr
  have nd := sc__law_deed_right.nd
  have z_all := G.z_all
  exact (ss_seq (ss_if ((st_or (st_not (st_truth (sv_callF (hc 18 "_law_row_of" ["_law_thing", "_law_low", "_law_high"] rfl) hr (pass_take tk) (by rfl) (vlen_cons (vlen_cons (vlen_cons vlen_nil))) (sa_cons (sv_var (pv 0)) (sa_cons sv_int (sa_cons sv_int sa_nil)))) (fun _ => rfl))) (st_or (st_not (st_truth (sv_callF (hc 17 "_law_is_name" ["_law_thing"] rfl) hr (pass_take tk) (by rfl) (vlen_cons vlen_nil) (sa_cons (sv_idx (sv_var (pv 0)) sv_int (fun _ _ => rfl)) sa_nil)) (fun _ => rfl))) (st_one_or (st_not (st_truth (sv_callF (hc 18 "_law_row_of" ["_law_thing", "_law_low", "_law_high"] rfl) hr (pass_take tk) (by rfl) (vlen_cons (vlen_cons (vlen_cons vlen_nil))) (sa_cons (sv_idx (sv_var (pv 0)) sv_int (fun _ _ => rfl)) (sa_cons sv_int (sa_cons sv_int sa_nil)))) (fun _ => rfl))))))).pt (ss_seq (ss_ret sv_bl)
    ss_nil) ss_nil)
    (ss_seq (ss_if (st_not (st_truth (sv_callBL (cs_all rfl) (by rfl) z_all boot_all' (sl_comp (own := [("_law_out", 1)]) rfl nd (si_val (sv_idx (sv_var (pv 0)) sv_int (fun _ _ => rfl))) (blkOk_by (N := N__law_deed_right) (sc := defScope s__law_deed_right) (by decide +kernel)) (fun _ _ _ _ _ => (sg_name nd (by rfl) (by first | exact .inl rfl | exact .inr rfl))) (fun _ _ _ _ _ => tts_nil) (fun _ _ _ _ _ => (sv_callF (hc 20 "_law_out_right" ["_law_out"] rfl) hr pass_none (by rfl) (vlen_cons vlen_nil) (sa_cons (sv_var (pv 1)) sa_nil))))) (fun _ => rfl))) (ss_seq (ss_ret sv_bl)
    ss_nil) ss_nil)
    (ss_seq (ss_ret (sv_not (sv_callF (hc 19 "_law_twice" ["_law_names_here"] rfl) hr (pass_take tk) (by rfl) (vlen_cons vlen_nil) (sa_cons (sv_new (sl_comp (own := [("_law_out", 1)]) rfl nd (si_val (sv_idx (sv_var (pv 0)) sv_int (fun _ _ => rfl))) (blkOk_by (N := N__law_deed_right) (sc := defScope s__law_deed_right) (by decide +kernel)) (fun _ _ _ _ _ => (sg_name nd (by rfl) (by first | exact .inl rfl | exact .inr rfl))) (fun _ _ _ _ _ => tts_nil) (fun _ _ _ _ _ => (sv_idx (sv_var (pv 1)) sv_int (fun _ _ => rfl))))) sa_nil))))
    ss_nil)))
theorem d__law_state_right {n : Nat} {c : Calls} (G : Glob K mg) (hc : HC P w K mg base n c) {f : Addr} {fd : FuncData} (F : FunD K "_law_state_right" "_law_state_right" (defArgs s__law_state_right) (defBody s__law_state_right) (defScope s__law_state_right) [] [] f fd) : FnOk P w K mg base (L2.CX P w) (n + 1) f fd ["_law_state_here"] (spF K (cmM mg) 1 (fnV 1 2 (b__law_state_right c))) := by
  refine fn_ok F sc__law_state_right (b__law_state_right c) fun cdv A outer s H E hr tk po => ?_
  have hu := hu_of' hr
  have hu1 := hu_1 hr
  have nd := sc__law_state_right.nd
  have z_all := G.z_all
  have z_bool := G.z_bool
  have z_isinstance := G.z_isinstance
  exact (ss_seq (ss_if ((st_or (st_not (st_truth (sv_callF (hc 18 "_law_row_of" ["_law_thing", "_law_low", "_law_high"] rfl) hr (pass_take tk) (by rfl) (vlen_cons (vlen_cons (vlen_cons vlen_nil))) (sa_cons (sv_var (pv 0)) (sa_cons sv_int (sa_cons sv_int sa_nil)))) (fun _ => rfl))) (st_or (st_not (st_truth (sv_callF (hc 17 "_law_is_name" ["_law_thing"] rfl) hr (pass_take tk) (by rfl) (vlen_cons vlen_nil) (sa_cons (sv_idx (sv_var (pv 0)) sv_int (fun _ _ => rfl)) sa_nil)) (fun _ => rfl))) (st_one_or (st_not (st_truth (sv_isi (sv_idx (sv_var (pv 0)) sv_int (fun _ _ => rfl)) (by rfl) z_isinstance boot_isinstance' (by rfl) z_bool boot_bool') (fun _ => rfl))))))).pt (ss_seq (ss_ret sv_bl)
    ss_nil) ss_nil)
    (ss_seq (ss_if ((st_or (st_not (st_truth (sv_callF (hc 18 "_law_row_of" ["_law_thing", "_law_low", "_law_high"] rfl) hr (pass_take tk) (by rfl) (vlen_cons (vlen_cons (vlen_cons vlen_nil))) (sa_cons (sv_idx (sv_var (pv 0)) sv_int (fun _ _ => rfl)) (sa_cons sv_int (sa_cons sv_int sa_nil)))) (fun _ => rfl))) (st_one_or (st_not (st_truth (sv_callBL (cs_all rfl) (by rfl) z_all boot_all' (sl_comp (own := [("_law_deed", 1)]) rfl nd (si_val (sv_idx (sv_var (pv 0)) sv_int (fun _ _ => rfl))) (blkOk_by (N := N__law_state_right) (sc := defScope s__law_state_right) (by decide +kernel)) (fun _ _ _ _ _ => (sg_name nd (by rfl) (by first | exact .inl rfl | exact .inr rfl))) (fun _ _ _ _ _ => tts_nil) (fun _ _ _ _ _ => (sv_callF (hc 21 "_law_deed_right" ["_law_deed"] rfl) hr pass_none (by rfl) (vlen_cons vlen_nil) (sa_cons (sv_var (pv 1)) sa_nil))))) (fun _ => rfl)))))).pt (ss_seq (ss_ret sv_bl)
    ss_nil) ss_nil)
    (ss_seq (ss_ret (sv_not (sv_callF (hc 19 "_law_twice" ["_law_names_here"] rfl) hr (pass_take tk) (by rfl) (vlen_cons vlen_nil) (sa_cons (sv_new (sl_comp (own := [("_law_deed", 1)]) rfl nd (si_val (sv_idx (sv_var (pv 0)) sv_int (fun _ _ => rfl))) (blkOk_by (N := N__law_state_right) (sc := defScope s__law_state_right) (by decide +kernel)) (fun _ _ _ _ _ => (sg_name nd (by rfl) (by first | exact .inl rfl | exact .inr rfl))) (fun _ _ _ _ _ => tts_nil) (fun _ _ _ _ _ => (sv_idx (sv_var (pv 1)) sv_int (fun _ _ => rfl))))) sa_nil))))
    ss_nil)))
theorem d__law_is_kind {n : Nat} {c : Calls} (G : Glob K mg) (hc : HC P w K mg base n c) {f : Addr} {fd : FuncData} (F : FunD K "_law_is_kind" "_law_is_kind" (defArgs s__law_is_kind) (defBody s__law_is_kind) (defScope s__law_is_kind) [] [] f fd) : FnOk P w K mg base (L2.CX P w) (n + 1) f fd ["_law_thing"] (spF K (cmM mg) 1 (fnV 1 8 (b__law_is_kind c))) := by
  refine fn_ok F sc__law_is_kind (b__law_is_kind c) fun cdv A outer s H E hr tk po => ?_
  have hu := hu_of' hr
  have hu1 := hu_1 hr
  have nd := sc__law_is_kind.nd
  have z_all := G.z_all
  exact (ss_seq (ss_if ((st_or (st_not (st_truth (sv_callF (hc 18 "_law_row_of" ["_law_thing", "_law_low", "_law_high"] rfl) hr (pass_take tk) (by rfl) (vlen_cons (vlen_cons (vlen_cons vlen_nil))) (sa_cons (sv_var (pv 0)) (sa_cons sv_int (sa_cons sv_int sa_nil)))) (fun _ => rfl))) (st_or (st_not (st_truth (sv_callF (hc 17 "_law_is_name" ["_law_thing"] rfl) hr (pass_take tk) (by rfl) (vlen_cons vlen_nil) (sa_cons (sv_idx (sv_var (pv 0)) sv_int (fun _ _ => rfl)) sa_nil)) (fun _ => rfl))) (st_one_or (st_not (st_truth (sv_callF (hc 18 "_law_row_of" ["_law_thing", "_law_low", "_law_high"] rfl) hr (pass_take tk) (by rfl) (vlen_cons (vlen_cons (vlen_cons vlen_nil))) (sa_cons (sv_idx (sv_var (pv 0)) sv_int (fun _ _ => rfl)) (sa_cons sv_int (sa_cons sv_int sa_nil)))) (fun _ => rfl))))))).pt (ss_seq (ss_ret sv_bl)
    ss_nil) ss_nil)
    (ss_seq (ss_if (st_not (st_truth (sv_callBL (cs_all rfl) (by rfl) z_all boot_all' (sl_comp (own := [("_law_state_here", 2)]) rfl nd (si_val (sv_idx (sv_var (pv 0)) sv_int (fun _ _ => rfl))) (blkOk_by (N := N__law_is_kind) (sc := defScope s__law_is_kind) (by decide +kernel)) (fun _ _ _ _ _ => (sg_name nd (by rfl) (by first | exact .inl rfl | exact .inr rfl))) (fun _ _ _ _ _ => tts_nil) (fun _ _ _ _ _ => (sv_callF (hc 22 "_law_state_right" ["_law_state_here"] rfl) hr pass_none (by rfl) (vlen_cons vlen_nil) (sa_cons (sv_var (pv 2)) sa_nil))))) (fun _ => rfl))) (ss_seq (ss_ret sv_bl)
    ss_nil) ss_nil)
    (ss_seq (ss_set (i := 1) nd rfl (by first | exact .inl rfl | exact .inr rfl) (sv_new (sl_comp (own := [("_law_state_here", 2)]) rfl nd (si_val (sv_idx (sv_var (pv 0)) sv_int (fun _ _ => rfl))) (blkOk_by (N := N__law_is_kind) (sc := defScope s__law_is_kind) (by decide +kernel)) (fun _ _ _ _ _ => (sg_name nd (by rfl) (by first | exact .inl rfl | exact .inr rfl))) (fun _ _ _ _ _ => tts_nil) (fun _ _ _ _ _ => (sv_idx (sv_var (pv 2)) sv_int (fun _ _ => rfl))))))
    (ss_seq (ss_for po rfl (si_val (sv_idx (sv_var (pv 0)) sv_int (fun _ _ => rfl))) (sg_tup rfl (sg_cons (sg_name nd (by rfl) (by first | exact .inl rfl | exact .inr rfl)) (sg_cons (sg_name nd (by rfl) (by first | exact .inl rfl | exact .inr rfl)) (sg_cons (sg_name nd (by rfl) (by first | exact .inl rfl | exact .inr rfl)) sg_nil))) (by rfl) (by rfl) (tgl_cons (tgl_cons (tgl_cons tgl_nil)))) (ss_seq (ss_for po rfl (si_val (sv_var (pv 4))) (sg_tup rfl (sg_cons (sg_name nd (by rfl) (by first | exact .inl rfl | exact .inr rfl)) (sg_cons (sg_name nd (by rfl) (by first | exact .inl rfl | exact .inr rfl)) sg_nil)) (by rfl) (by rfl) (tgl_cons (tgl_cons tgl_nil))) (ss_seq (ss_if (st_neL hu (sl_comp (own := [("_law_out", 7)]) rfl nd (si_val (sv_var (pv 6))) (blkOk_by (N := N__law_is_kind) (sc := defScope s__law_is_kind) (by decide +kernel)) (fun _ _ _ _ _ => (sg_name nd (by rfl) (by first | exact .inl rfl | exact .inr rfl))) (fun _ _ _ _ _ => (tts_one ((st_and (st_cmp os_isNot (sv_idx (sv_var (pv 7)) sv_int (fun _ _ => rfl)) sv_non (nomark _)) (st_one_and (st_cmp (os_notIn hu) (sv_idx (sv_var (pv 7)) sv_int (fun _ _ => rfl)) (sv_var (pv 1)) (by with_unfolding_all rfl))))).pt)) (fun _ _ _ _ _ => (sv_var (pv 7)))) (sl_disp sa_nil) (nomark _)) (ss_seq (ss_ret sv_bl)
    ss_nil) ss_nil)
    ss_nil))
    ss_nil))
    (ss_seq (ss_ret (sv_not (sv_callF (hc 19 "_law_twice" ["_law_names_here"] rfl) hr (pass_take tk) (by rfl) (vlen_cons vlen_nil) (sa_cons (sv_var (pv 1)) sa_nil))))
    ss_nil)))))
theorem d__law_odd {n : Nat} {c : Calls} (G : Glob K mg) (hc : HC P w K mg base n c) {f : Addr} {fd : FuncData} (F : FunD K "_law_odd" "_law_odd" (defArgs s__law_odd) (defBody s__law_odd) (defScope s__law_odd) [] [] f fd) : FnOk P w K mg base (L2.CX P w) (n + 1) f fd ["_law_well_here", "_law_pool"] (spF K (cmM mg) 2 (fnV 2 4 (b__law_odd c))) := by
  refine fn_ok F sc__law_odd (b__law_odd c) fun cdv A outer s H E hr tk po => ?_
  have hu := hu_of' hr
  have hu1 := hu_1 hr
  have nd := sc__law_odd.nd
  have z_len := G.z_len
  exact (ss_seq (ss_set (i := 2) nd rfl (by first | exact .inl rfl | exact .inr rfl) (sv_idx (sv_var (pv 1)) (sv_callF (hc 9 "_law_take" ["_law_well_here", "_law_many"] rfl) hr (pass_take tk) (by rfl) (vlen_cons (vlen_cons vlen_nil)) (sa_cons (sv_var (pv 0)) (sa_cons sv_int sa_nil))) (fun _ _ => rfl)))
    (ss_seq (ss_set (i := 3) nd rfl (by first | exact .inl rfl | exact .inr rfl) (sv_new (sl_disp (sa_cons sv_non (sa_cons sv_bl (sa_cons sv_bl (sa_cons sv_int (sa_cons sv_int (sa_cons (sv_un os_neg sv_int) (sa_cons (sv_bin os_pow sv_int sv_int) (sa_cons sv_str (sa_cons sv_str (sa_cons sv_str (sa_cons sv_str (sa_cons sv_str (sa_cons sv_str sa_nil))))))))))))))))
    (ss_seq (ss_set (i := 3) nd rfl (by first | exact .inl rfl | exact .inr rfl) (sv_new (sl_cat (sl_val (sv_var (pv 3))) (sl_disp (sa_cons sv_str (sa_cons sv_str (sa_cons sv_str (sa_cons sv_str (sa_cons sv_str (sa_cons (sv_var (pv 2)) (sa_cons (sv_tup sa_nil) (sa_cons (sv_tup (sa_cons (sv_var (pv 2)) sa_nil)) (sa_cons (sv_new (sl_disp sa_nil)) (sa_cons (sv_new (sl_disp (sa_cons (sv_var (pv 2)) sa_nil))) sa_nil))))))))))))))
    (ss_seq (ss_set (i := 3) nd rfl (by first | exact .inl rfl | exact .inr rfl) (sv_new (sl_cat (sl_val (sv_var (pv 3))) (sl_disp (sa_cons (sv_tup (sa_cons (sv_var (pv 2)) (sa_cons sv_non sa_nil))) (sa_cons (sv_tup (sa_cons (sv_var (pv 2)) (sa_cons sv_non (sa_cons sv_non sa_nil)))) (sa_cons (sv_tup (sa_cons (sv_var (pv 2)) (sa_cons sv_bl (sa_cons (sv_tup sa_nil) sa_nil)))) sa_nil)))))))
    (ss_seq (ss_set (i := 3) nd rfl (by first | exact .inl rfl | exact .inr rfl) (sv_new (sl_cat (sl_val (sv_var (pv 3))) (sl_disp (sa_cons (sv_tup (sa_cons (sv_var (pv 2)) (sa_cons (sv_tup (sa_cons (sv_tup (sa_cons (sv_var (pv 2)) (sa_cons sv_non (sa_cons sv_non sa_nil)))) sa_nil)) sa_nil))) (sa_cons (sv_tup (sa_cons (sv_var (pv 2)) (sa_cons (sv_tup (sa_cons (sv_tup (sa_cons (sv_var (pv 2)) (sa_cons sv_bl (sa_cons (sv_tup sa_nil) sa_nil)))) sa_nil)) sa_nil))) sa_nil))))))
    (ss_seq (ss_set (i := 3) nd rfl (by first | exact .inl rfl | exact .inr rfl) (sv_new (sl_cat (sl_val (sv_var (pv 3))) (sl_disp (sa_cons (sv_bin os_add (sv_var (pv 2)) sv_str) (sa_cons (sv_sm0 PySem.F.slot_str_upper PySem.F.type_str_upper ms_upper (sv_var (pv 2))) (sa_cons sv_dic0 (sa_cons (sv_dic1 (sv_var (pv 2)) sv_int) (sa_cons (sv_dic1 sv_int (sv_tup sa_nil)) (sa_cons (sv_new (sl_disp (sa_cons sv_dic0 sa_nil))) (sa_cons (sv_dic1 sv_str (sv_var (pv 2))) sa_nil)))))))))))
    (ss_seq (ss_ret (sv_idx (sv_var (pv 3)) (sv_callF (hc 9 "_law_take" ["_law_well_here", "_law_many"] rfl) hr (pass_take tk) (by rfl) (vlen_cons (vlen_cons vlen_nil)) (sa_cons (sv_var (pv 0)) (sa_cons (sv_callB cs_len (by rfl) z_len boot_len' (sa_cons (sv_var (pv 3)) sa_nil)) sa_nil))) (fun _ _ => rfl)))
    ss_nil)))))))
theorem d__law_bent {n : Nat} {c : Calls} (G : Glob K mg) (hc : HC P w K mg base n c) {f : Addr} {fd : FuncData} (F : FunD K "_law_bent" "_law_bent" (defArgs s__law_bent) (defBody s__law_bent) (defScope s__law_bent) [] [] f fd) : FnOk P w K mg base (L2.CX P w) (n + 1) f fd ["_law_well_here", "_law_thing", "_law_pool", "_law_other"] (spF K (cmM mg) 4 (fnV 4 7 (b__law_bent c))) := by
  refine fn_ok F sc__law_bent (b__law_bent c) fun cdv A outer s H E hr tk po => ?_
  have hu := hu_of' hr
  have hu1 := hu_1 hr
  have nd := sc__law_bent.nd
  have z_int := G.z_int
  have z_isinstance := G.z_isinstance
  have z_len := G.z_len
  have z_list := G.z_list
  have z_max := G.z_max
  have z_tuple := G.z_tuple
  exact (ss_seq (ss_set (i := 4) nd rfl (by first | exact .inl rfl | exact .inr rfl) (sv_callF (hc 9 "_law_take" ["_law_well_here", "_law_many"] rfl) hr (pass_take tk) (by rfl) (vlen_cons (vlen_cons vlen_nil)) (sa_cons (sv_var (pv 0)) (sa_cons sv_int sa_nil))))
    (ss_seq (ss_if ((st_or (st_not (st_truth (sv_isi (sv_var (pv 1)) (by rfl) z_isinstance boot_isinstance' (by rfl) z_tuple boot_tuple') (fun _ => rfl))) (st_one_or (st_cmp (os_eq hu) (sv_var (pv 4)) sv_int (nomark _))))).pt (ss_seq (ss_ret (sv_idx (sv_new (sl_disp (sa_cons (sv_callF (hc 24 "_law_odd" ["_law_well_here", "_law_pool"] rfl) hr (pass_take tk) (by rfl) (vlen_cons (vlen_cons vlen_nil)) (sa_cons (sv_var (pv 0)) (sa_cons (sv_var (pv 2)) sa_nil))) (sa_cons (sv_var (pv 3)) sa_nil)))) (sv_callT cs_int (by rfl) z_int boot_int' (sa_cons (sv_cmp (os_eq hu) (sv_callF (hc 9 "_law_take" ["_law_well_here", "_law_many"] rfl) hr (pass_take tk) (by rfl) (vlen_cons (vlen_cons vlen_nil)) (sa_cons (sv_var (pv 0)) (sa_cons sv_int sa_nil))) sv_int (nomark _)) sa_nil)) (fun _ _ => rfl)))
    ss_nil) ss_nil)
    (ss_seq (ss_if (st_cmp (os_eq hu) (sv_var (pv 4)) sv_int (nomark _)) (ss_seq (ss_ret (sv_new (sl_callTN cs_list (by rfl) z_list boot_list' (sa_cons (sv_var (pv 1)) sa_nil))))
    ss_nil) ss_nil)
    (ss_seq (ss_set (i := 5) nd rfl (by first | exact .inl rfl | exact .inr rfl) (sv_callF (hc 9 "_law_take" ["_law_well_here", "_law_many"] rfl) hr (pass_take tk) (by rfl) (vlen_cons (vlen_cons vlen_nil)) (sa_cons (sv_var (pv 0)) (sa_cons (sv_callB (cs_max rfl) (by rfl) z_max boot_max' (sa_cons sv_int (sa_cons (sv_callB cs_len (by rfl) z_len boot_len' (sa_cons (sv_var (pv 1)) sa_nil)) sa_nil))) sa_nil))))
    (ss_seq (ss_if (st_cmp (os_eq hu) (sv_var (pv 4)) sv_int (nomark _)) (ss_seq (ss_ret (sv_bin os_add (sv_slc (sv_var (pv 1)) so_none (so_some (sv_var (pv 5)))) (sv_slc (sv_var (pv 1)) (so_some (sv_bin os_add (sv_var (pv 5)) sv_int)) so_none)))
    ss_nil) ss_nil)
    (ss_seq (ss_if (st_cmp (os_eq hu) (sv_var (pv 4)) sv_int (nomark _)) (ss_seq (ss_ret (sv_bin os_add (sv_var (pv 1)) (sv_slc (sv_var (pv 1)) (so_some (sv_var (pv 5))) (so_some (sv_bin os_add (sv_var (pv 5)) sv_int)))))
    ss_nil) ss_nil)
    (ss_seq (ss_if (st_cmp (os_eq hu) (sv_var (pv 4)) sv_int (nomark _)) (ss_seq (ss_set (i := 6) nd rfl (by first | exact .inl rfl | exact .inr rfl) (sv_bin os_add (sv_slc (sv_var (pv 1)) (so_some (sv_bin os_add (sv_var (pv 5)) sv_int)) (so_some (sv_bin os_add (sv_var (pv 5)) sv_int))) (sv_slc (sv_var (pv 1)) (so_some (sv_var (pv 5))) (so_some (sv_bin os_add (sv_var (pv 5)) sv_int)))))
    (ss_seq (ss_ret (sv_bin os_add (sv_bin os_add (sv_slc (sv_var (pv 1)) so_none (so_some (sv_var (pv 5)))) (sv_var (pv 6))) (sv_slc (sv_var (pv 1)) (so_some (sv_bin os_add (sv_var (pv 5)) sv_int)) so_none)))
    ss_nil)) ss_nil)
    (ss_seq (ss_if (st_cmp (os_eq hu) (sv_var (pv 4)) sv_int (nomark _)) (ss_seq (ss_ret (sv_bin os_add (sv_var (pv 1)) (sv_tup (sa_cons (sv_callF (hc 24 "_law_odd" ["_law_well_here", "_law_pool"] rfl) hr (pass_take tk) (by rfl) (vlen_cons (vlen_cons vlen_nil)) (sa_cons (sv_var (pv 0)) (sa_cons (sv_var (pv 2)) sa_nil))) sa_nil))))
    ss_nil) ss_nil)
    (ss_seq (ss_if ((st_and (st_cmp (os_eq hu) (sv_var (pv 4)) sv_int (nomark _)) (st_one_and (st_cmp (os_ne hu) (sv_var (pv 1)) (sv_tup sa_nil) (nomark _))))).pt (ss_seq (ss_ret (sv_bin os_add (sv_bin os_add (sv_slc (sv_var (pv 1)) so_none (so_some (sv_var (pv 5)))) (sv_tup (sa_cons (sv_var (pv 3)) sa_nil))) (sv_slc (sv_var (pv 1)) (so_some (sv_bin os_add (sv_var (pv 5)) sv_int)) so_none)))
    ss_nil) ss_nil)
    (ss_seq (ss_ret (sv_var (pv 1)))
    ss_nil))))))))))
theorem d__law_spoilt {n : Nat} {c : Calls} (G : Glob K mg) (hc : HC P w K mg base n c) {f : Addr} {fd : FuncData} (F : FunD K "_law_spoilt" "_law_spoilt" (defArgs s__law_spoilt) (defBody s__law_spoilt) (defScope s__law_spoilt) [] [] f fd) : FnOk P w K mg base (L2.CX P w) (n + 1) f fd ["_law_well_here", "_law_thing", "_law_pool", "_law_deep"] (spF K (cmM mg) 4 (fnV 4 9 (b__law_spoilt c))) := by
  refine fn_ok F sc__law_spoilt (b__law_spoilt c) fun cdv A outer s H E hr tk po => ?_
  have hu := hu_of' hr
  have hu1 := hu_1 hr
  have nd := sc__law_spoilt.nd
  have z_isinstance := G.z_isinstance
  have z_len := G.z_len
  have z_tuple := G.z_tuple
  exact (ss_seq (ss_set (i := 4) nd rfl (by first | exact .inl rfl | exact .inr rfl) (sv_var (pv 1)))
    (ss_seq (ss_set (i := 5) nd rfl (by first | exact .inl rfl | exact .inr rfl) (sv_new (sl_disp sa_nil)))
    (ss_seq (ss_while po ((st_and (st_cmp os_lt (sv_callB cs_len (by rfl) z_len boot_len' (sa_cons (sv_var (pv 5)) sa_nil)) (sv_var (pv 3)) (nomark _)) (st_and (st_truth (sv_isi (sv_var (pv 4)) (by rfl) z_isinstance boot_isinstance' (by rfl) z_tuple boot_tuple') (fun _ => rfl)) (st_one_and (st_cmp (os_ne hu) (sv_var (pv 4)) (sv_tup sa_nil) (nomark _)))))).pt (ss_seq (ss_set (i := 6) nd rfl (by first | exact .inl rfl | exact .inr rfl) (sv_callF (hc 9 "_law_take" ["_law_well_here", "_law_many"] rfl) hr (pass_take tk) (by rfl) (vlen_cons (vlen_cons vlen_nil)) (sa_cons (sv_var (pv 0)) (sa_cons (sv_callB cs_len (by rfl) z_len boot_len' (sa_cons (sv_var (pv 4)) sa_nil)) sa_nil))))
    (ss_seq (ss_expr (sv_lm PySem.F.slot_list_append PySem.F.type_list_append ms_append (sv_var (pv 5)) (sa_cons (sv_tup (sa_cons (sv_var (pv 4)) (sa_cons (sv_var (pv 6)) sa_nil))) sa_nil)))
    (ss_seq (ss_set (i := 4) nd rfl (by first | exact .inl rfl | exact .inr rfl) (sv_idx (sv_var (pv 4)) (sv_var (pv 6)) (fun _ _ => rfl)))
    ss_nil))))
    (ss_seq (ss_set (i := 7) nd rfl (by first | exact .inl rfl | exact .inr rfl) (sv_callF (hc 25 "_law_bent" ["_law_well_here", "_law_thing", "_law_pool", "_law_other"] rfl) hr (pass_take tk) (by rfl) (vlen_cons (vlen_cons (vlen_cons (vlen_cons vlen_nil)))) (sa_cons (sv_var (pv 0)) (sa_cons (sv_var (pv 4)) (sa_cons (sv_var (pv 2)) (sa_cons (sv_idx (sv_var (pv 2)) (sv_callF (hc 9 "_law_take" ["_law_well_here", "_law_many"] rfl) hr (pass_take tk) (by rfl) (vlen_cons (vlen_cons vlen_nil)) (sa_cons (sv_var (pv 0)) (sa_cons sv_int sa_nil))) (fun _ _ => rfl)) sa_nil))))))
    (ss_seq (ss_for po rfl (si_list (sl_rev (sv_var (pv 5)))) (sg_tup rfl (sg_cons (sg_name nd (by rfl) (by first | exact .inl rfl | exact .inr rfl)) (sg_cons (sg_name nd (by rfl) (by first | exact .inl rfl | exact .inr rfl)) sg_nil)) (by rfl) (by rfl) (tgl_cons (tgl_cons tgl_nil))) (ss_seq (ss_set (i := 7) nd rfl (by first | exact .inl rfl | exact .inr rfl) (sv_bin os_add (sv_bin os_add (sv_slc (sv_var (pv 8)) so_none (so_some (sv_var (pv 6)))) (sv_tup (sa_cons (sv_var (pv 7)) sa_nil))) (sv_slc (sv_var (pv 8)) (so_some (sv_bin os_add (sv_var (pv 6)) sv_int)) so_none)))
    ss_nil))
    (ss_seq (ss_ret (sv_var (pv 7)))
    ss_nil))))))
theorem d__law_more {n : Nat} {c : Calls} (G : Glob K mg) (hc : HC P w K mg base n c) {f : Addr} {fd : FuncData} (F : FunD K "_law_more" "_law_more" (defArgs s__law_more) (defBody s__law_more) (defScope s__law_more) [] [] f fd) : FnOk P w K mg base (L2.CX P w) (n + 1) f fd ["_law_well_here", "_law_pool"] (spF K (cmM mg) 2 (fnV 2 9 (b__law_more c))) := by
  refine fn_ok F sc__law_more (b__law_more c) fun cdv A outer s H E hr tk po => ?_
  have hu := hu_of' hr
  have hu1 := hu_1 hr
  have nd := sc__law_more.nd
  have z_tuple := G.z_tuple
  exact (ss_seq (ss_set (i := 2) nd rfl (by first | exact .inl rfl | exact .inr rfl) (sv_callF (hc 9 "_law_take" ["_law_well_here", "_law_many"] rfl) hr (pass_take tk) (by rfl) (vlen_cons (vlen_cons vlen_nil)) (sa_cons (sv_var (pv 0)) (sa_cons sv_int sa_nil))))
    (ss_seq (ss_set (i := 3) nd rfl (by first | exact .inl rfl | exact .inr rfl) (sv_callF (hc 9 "_law_take" ["_law_well_here", "_law_many"] rfl) hr (pass_take tk) (by rfl) (vlen_cons (vlen_cons vlen_nil)) (sa_cons (sv_var (pv 0)) (sa_cons sv_int sa_nil))))
    (ss_seq (ss_set (i := 4) nd rfl (by first | exact .inl rfl | exact .inr rfl) (sv_tup (sa_cons (sv_idx (sv_var (pv 1)) sv_int (fun _ _ => rfl)) (sa_cons sv_bl (sa_cons (sv_tup (sa_cons (sv_tup (sa_cons (sv_idx (sv_var (pv 1)) sv_int (fun _ _ => rfl)) (sa_cons (sv_tup (sa_cons (sv_tup (sa_cons (sv_idx (sv_var (pv 1)) sv_int (fun _ _ => rfl)) (sa_cons (sv_idx (sv_var (pv 1)) sv_int (fun _ _ => rfl)) (sa_cons sv_non sa_nil)))) sa_nil)) sa_nil))) sa_nil)) sa_nil)))))
    (ss_seq (ss_if (st_cmp (os_eq hu) (sv_var (pv 2)) sv_int (nomark _)) (ss_seq (ss_ret (sv_tup (sa_cons (sv_idx (sv_var (pv 1)) (sv_var (pv 3)) (fun _ _ => rfl)) (sa_cons (sv_callTL cs_tupL (by rfl) z_tuple boot_tuple' (sl_comp (own := [("_law_name", 8)]) rfl nd (si_list (sl_slc (sv_var (pv 1)) so_none (so_some (sv_bin os_add sv_int (sv_var (pv 3)))))) (blkOk_by (N := N__law_more) (sc := defScope s__law_more) (by decide +kernel)) (fun _ _ _ _ _ => (sg_name nd (by rfl) (by first | exact .inl rfl | exact .inr rfl))) (fun _ _ _ _ _ => tts_nil) (fun _ _ _ _ _ => (sv_tup (sa_cons (sv_var (pv 8)) (sa_cons sv_bl (sa_cons (sv_tup sa_nil) sa_nil))))))) sa_nil))))
    ss_nil) ss_nil)
    (ss_seq (ss_if (st_cmp (os_eq hu) (sv_var (pv 2)) sv_int (nomark _)) (ss_seq (ss_set (i := 5) nd rfl (by first | exact .inl rfl | exact .inr rfl) (sv_callTL cs_tupL (by rfl) z_tuple boot_tuple' (sl_comp (own := [("_law_name", 8)]) rfl nd (si_list (sl_slc (sv_var (pv 1)) so_none (so_some (sv_bin os_add sv_int (sv_var (pv 3)))))) (blkOk_by (N := N__law_more) (sc := defScope s__law_more) (by decide +kernel)) (fun _ _ _ _ _ => (sg_name nd (by rfl) (by first | exact .inl rfl | exact .inr rfl))) (fun _ _ _ _ _ => tts_nil) (fun _ _ _ _ _ => (sv_tup (sa_cons (sv_var (pv 8)) (sa_cons (sv_tup (sa_cons (sv_tup (sa_cons (sv_idx (sv_var (pv 1)) sv_int (fun _ _ => rfl)) (sa_cons sv_non (sa_cons sv_non sa_nil)))) sa_nil)) sa_nil)))))))
    (ss_seq (ss_ret (sv_tup (sa_cons (sv_idx (sv_var (pv 1)) (sv_var (pv 3)) (fun _ _ => rfl)) (sa_cons (sv_tup (sa_cons (sv_var (pv 4)) (sa_cons (sv_tup (sa_cons (sv_idx (sv_var (pv 1)) sv_int (fun _ _ => rfl)) (sa_cons sv_bl (sa_cons (sv_var (pv 5)) sa_nil)))) sa_nil))) sa_nil))))
    ss_nil)) ss_nil)
    (ss_seq (ss_if (st_cmp (os_eq hu) (sv_var (pv 2)) sv_int (nomark _)) (ss_seq (ss_set (i := 6) nd rfl (by first | exact .inl rfl | exact .inr rfl) (sv_callTL cs_tupL (by rfl) z_tuple boot_tuple' (sl_comp (own := [("_law_name", 8)]) rfl nd (si_list (sl_slc (sv_var (pv 1)) so_none (so_some (sv_bin os_add sv_int (sv_var (pv 3)))))) (blkOk_by (N := N__law_more) (sc := defScope s__law_more) (by decide +kernel)) (fun _ _ _ _ _ => (sg_name nd (by rfl) (by first | exact .inl rfl | exact .inr rfl))) (fun _ _ _ _ _ => tts_nil) (fun _ _ _ _ _ => (sv_tup (sa_cons (sv_var (pv 8)) (sa_cons (sv_idx (sv_var (pv 1)) sv_int (fun _ _ => rfl)) (sa_cons sv_non sa_nil))))))))
    (ss_seq (ss_ret (sv_tup (sa_cons (sv_idx (sv_var (pv 1)) (sv_var (pv 3)) (fun _ _ => rfl)) (sa_cons (sv_tup (sa_cons (sv_var (pv 4)) (sa_cons (sv_tup (sa_cons (sv_idx (sv_var (pv 1)) sv_int (fun _ _ => rfl)) (sa_cons sv_bl (sa_cons (sv_tup (sa_cons (sv_tup (sa_cons (sv_idx (sv_var (pv 1)) sv_int (fun _ _ => rfl)) (sa_cons (sv_var (pv 6)) sa_nil))) sa_nil)) sa_nil)))) sa_nil))) sa_nil))))
    ss_nil)) ss_nil)
    (ss_seq (ss_if (st_cmp (os_eq hu) (sv_var (pv 2)) sv_int (nomark _)) (ss_seq (ss_set (i := 7) nd rfl (by first | exact .inl rfl | exact .inr rfl) (sv_tup (sa_cons (sv_idx (sv_var (pv 1)) sv_int (fun _ _ => rfl)) (sa_cons (sv_idx (sv_var (pv 1)) (sv_idx (sv_new (sl_disp (sa_cons sv_int (sa_cons sv_int sa_nil)))) (sv_var (pv 3)) (fun _ _ => rfl)) (fun _ _ => rfl)) (sa_cons (sv_idx (sv_var (pv 1)) sv_int (fun _ _ => rfl)) sa_nil)))))
    (ss_seq (ss_ret (sv_tup (sa_cons (sv_idx (sv_var (pv 1)) sv_int (fun _ _ => rfl)) (sa_cons (sv_tup (sa_cons (sv_tup (sa_cons (sv_idx (sv_var (pv 1)) sv_int (fun _ _ => rfl)) (sa_cons sv_bl (sa_cons (sv_tup (sa_cons (sv_tup (sa_cons (sv_idx (sv_var (pv 1)) sv_int (fun _ _ => rfl)) (sa_cons (sv_tup (sa_cons (sv_var (pv 7)) sa_nil)) sa_nil))) sa_nil)) sa_nil)))) sa_nil)) sa_nil))))
    ss_nil)) ss_nil)
    (ss_seq (ss_if (st_cmp (os_eq hu) (sv_var (pv 2)) sv_int (nomark _)) (ss_seq (ss_ret (sv_tup (sa_cons (sv_idx (sv_var (pv 1)) sv_int (fun _ _ => rfl)) (sa_cons (sv_tup (sa_cons (sv_var (pv 4)) (sa_cons (sv_tup (sa_cons (sv_idx (sv_var (pv 1)) (sv_idx (sv_new (sl_disp (sa_cons sv_int (sa_cons sv_int sa_nil)))) (sv_var (pv 3)) (fun _ _ => rfl)) (fun _ _ => rfl)) (sa_cons sv_bl (sa_cons (sv_tup sa_nil) sa_nil)))) sa_nil))) sa_nil))))
    ss_nil) ss_nil)
    (ss_seq (ss_ret (sv_tup (sa_cons (sv_idx (sv_var (pv 1)) sv_int (fun _ _ => rfl)) (sa_cons (sv_slc (sv_tup (sa_cons (sv_var (pv 4)) sa_nil)) (so_some (sv_var (pv 3))) so_none) sa_nil))))
    ss_nil)))))))))
theorem d_law {n : Nat} {c : Calls} (G : Glob K mg) (hc : HC P w K mg base n c) {f : Addr} {fd : FuncData} (F : FunD K "law" "law" (defArgs s_law) (defBody s_law) (defScope s_law) [] [] f fd) : FnOk P w K mg base (L2.CX P w) (n + 1) f fd ["_law_script"] (spF K (cmM mg) 1 (fnV 1 8 (b_law c))) := by
  refine fn_ok F sc_law (b_law c) fun cdv A outer s H E hr tk po => ?_
  have hu := hu_of' hr
  have hu1 := hu_1 hr
  have nd := sc_law.nd
  have z_bool := G.z_bool
  have z_isinstance := G.z_isinstance
  have z_len := G.z_len
  have z_max := G.z_max
  have z_min := G.z_min
  have z_range := G.z_range
  have z_tuple := G.z_tuple
  exact (ss_seq (ss_set (i := 1) nd rfl (by first | exact .inl rfl | exact .inr rfl) (sv_callF (hc 8 "_law_well" ["_law_script", "_law_k"] rfl) hr (pass_take tk) (by rfl) (vlen_cons (vlen_cons vlen_nil)) (sa_cons (sv_var (pv 0)) (sa_cons sv_int sa_nil))))
    (ss_seq (ss_set (i := 2) nd rfl (by first | exact .inl rfl | exact .inr rfl) (sv_callF (hc 12 "_law_names" ["_law_well_here", "_law_many"] rfl) hr (pass_take tk) (by rfl) (vlen_cons (vlen_cons vlen_nil)) (sa_cons (sv_var (pv 1)) (sa_cons sv_int sa_nil))))
    (ss_seq (ss_set (i := 3) nd rfl (by first | exact .inl rfl | exact .inr rfl) (sv_callF (hc 16 "_law_kind" ["_law_well_here", "_law_pool", "_law_name", "_law_kinds", "_law_most"] rfl) hr (pass_take tk) (by rfl) (vlen_cons (vlen_cons (vlen_cons (vlen_cons (vlen_cons vlen_nil))))) (sa_cons (sv_var (pv 1)) (sa_cons (sv_var (pv 2)) (sa_cons (sv_idx (sv_var (pv 2)) (sv_callF (hc 9 "_law_take" ["_law_well_here", "_law_many"] rfl) hr (pass_take tk) (by rfl) (vlen_cons (vlen_cons vlen_nil)) (sa_cons (sv_var (pv 1)) (sa_cons sv_int sa_nil))) (fun _ _ => rfl)) (sa_cons (sv_new (sl_slc (sv_var (pv 2)) so_none (so_some sv_int))) (sa_cons sv_int sa_nil)))))))
    (ss_seq (ss_if ((st_or (st_not (st_truth (sv_callF (hc 23 "_law_is_kind" ["_law_thing"] rfl) hr (pass_take tk) (by rfl) (vlen_cons vlen_nil) (sa_cons (sv_var (pv 3)) sa_nil)) (fun _ => rfl))) (st_one_or (st_cmp os_isNotB (sv_callF (hc 7 "is_kind" ["thing"] rfl) hr (pass_take tk) (by rfl) (vlen_cons vlen_nil) (sa_cons (sv_var (pv 3)) sa_nil)) sv_bl (nomark _))))).pt (ss_seq (ss_ret sv_bl)
    ss_nil) ss_nil)
    (ss_seq (ss_set (i := 4) nd rfl (by first | exact .inl rfl | exact .inr rfl) (sv_var (pv 3)))
    (ss_seq (ss_for po rfl (si_range2 (by rfl) z_range (sa_cons sv_int (sa_cons (sv_callB (cs_max rfl) (by rfl) z_max boot_max' (sa_cons sv_int (sa_cons (sv_callB (cs_min rfl) (by rfl) z_min boot_min' (sa_cons (sv_callB cs_len (by rfl) z_len boot_len' (sa_cons (sv_var (pv 0)) sa_nil)) (sa_cons sv_int sa_nil))) sa_nil))) sa_nil)) (fun _ _ _ _ h => vs2_len h)) (sg_name nd (by rfl) (by first | exact .inl rfl | exact .inr rfl)) (ss_seq (ss_set (i := 1) nd rfl (by first | exact .inl rfl | exact .inr rfl) (sv_callF (hc 8 "_law_well" ["_law_script", "_law_k"] rfl) hr (pass_take tk) (by rfl) (vlen_cons (vlen_cons vlen_nil)) (sa_cons (sv_var (pv 0)) (sa_cons (sv_var (pv 5)) sa_nil))))
    (ss_seq (ss_if ((st_or (st_cmp os_gt (sv_callF (hc 9 "_law_take" ["_law_well_here", "_law_many"] rfl) hr (pass_take tk) (by rfl) (vlen_cons (vlen_cons vlen_nil)) (sa_cons (sv_var (pv 1)) (sa_cons sv_int sa_nil))) sv_int (nomark _)) (st_one_or (st_not (st_truth (sv_isi (sv_var (pv 4)) (by rfl) z_isinstance boot_isinstance' (by rfl) z_tuple boot_tuple') (fun _ => rfl)))))).pt (ss_seq (ss_set (i := 4) nd rfl (by first | exact .inl rfl | exact .inr rfl) (sv_var (pv 3)))
    ss_nil) ss_nil)
    (ss_seq (ss_if (st_cmp (os_eq hu) (sv_callF (hc 9 "_law_take" ["_law_well_here", "_law_many"] rfl) hr (pass_take tk) (by rfl) (vlen_cons (vlen_cons vlen_nil)) (sa_cons (sv_var (pv 1)) (sa_cons sv_int sa_nil))) sv_int (nomark _)) (ss_seq (ss_set (i := 4) nd rfl (by first | exact .inl rfl | exact .inr rfl) (sv_callF (hc 27 "_law_more" ["_law_well_here", "_law_pool"] rfl) hr (pass_take tk) (by rfl) (vlen_cons (vlen_cons vlen_nil)) (sa_cons (sv_var (pv 1)) (sa_cons (sv_var (pv 2)) sa_nil))))
    ss_nil) (ss_seq (ss_set (i := 4) nd rfl (by first | exact .inl rfl | exact .inr rfl) (sv_callF (hc 26 "_law_spoilt" ["_law_well_here", "_law_thing", "_law_pool", "_law_deep"] rfl) hr (pass_take tk) (by rfl) (vlen_cons (vlen_cons (vlen_cons (vlen_cons vlen_nil)))) (sa_cons (sv_var (pv 1)) (sa_cons (sv_var (pv 4)) (sa_cons (sv_var (pv 2)) (sa_cons (sv_bin os_add sv_int (sv_callF (hc 9 "_law_take" ["_law_well_here", "_law_many"] rfl) hr (pass_take tk) (by rfl) (vlen_cons (vlen_cons vlen_nil)) (sa_cons (sv_var (pv 1)) (sa_cons sv_int sa_nil)))) sa_nil))))))
    ss_nil))
    (ss_seq (ss_for po rfl (si_range1 (by rfl) z_range (sa_cons sv_int sa_nil) (fun _ _ _ _ h => vs1_len h)) (sg_name nd (by rfl) (by first | exact .inl rfl | exact .inr rfl)) (ss_seq (ss_set (i := 7) nd rfl (by first | exact .inl rfl | exact .inr rfl) (sv_callF (hc 7 "is_kind" ["thing"] rfl) hr (pass_take tk) (by rfl) (vlen_cons vlen_nil) (sa_cons (sv_var (pv 4)) sa_nil)))
    (ss_seq (ss_if ((st_or (st_not (st_truth (sv_isi (sv_var (pv 7)) (by rfl) z_isinstance boot_isinstance' (by rfl) z_bool boot_bool') (fun _ => rfl))) (st_one_or (st_cmp (os_ne hu) (sv_var (pv 7)) (sv_callF (hc 23 "_law_is_kind" ["_law_thing"] rfl) hr (pass_take tk) (by rfl) (vlen_cons vlen_nil) (sa_cons (sv_var (pv 4)) sa_nil)) (nomark _))))).pt (ss_seq (ss_ret sv_bl)
    ss_nil) ss_nil)
    ss_nil)))
    ss_nil)))))
    (ss_seq (ss_ret (sv_cmp os_isB (sv_callF (hc 7 "is_kind" ["thing"] rfl) hr (pass_take tk) (by rfl) (vlen_cons vlen_nil) (sa_cons (sv_var (pv 3)) sa_nil)) sv_bl (nomark _)))
    ss_nil)))))))
structure Facts (K : PySem.W.Frag) (mg : Str → Option Value) : Prop where
  f_is_name : ∃ f fd, FunD K "is_name" "is_name" (defArgs s_is_name) (defBody s_is_name) (defScope s_is_name) [] [] f fd ∧ mg "is_name" = some (.ref f)
  f_are_unlike : ∃ f fd, FunD K "are_unlike" "are_unlike" (defArgs s_are_unlike) (defBody s_are_unlike) (defScope s_are_unlike) [] [] f fd ∧ mg "are_unlike" = some (.ref f)
  f_is_maybe : ∃ f fd, FunD K "is_maybe" "is_maybe" (defArgs s_is_maybe) (defBody s_is_maybe) (defScope s_is_maybe) [] [] f fd ∧ mg "is_maybe" = some (.ref f)
  f_is_out : ∃ f fd, FunD K "is_out" "is_out" (defArgs s_is_out) (defBody s_is_out) (defScope s_is_out) [] [] f fd ∧ mg "is_out" = some (.ref f)
  f_is_deed : ∃ f fd, FunD K "is_deed" "is_deed" (defArgs s_is_deed) (defBody s_is_deed) (defScope s_is_deed) [] [] f fd ∧ mg "is_deed" = some (.ref f)
  f_is_state : ∃ f fd, FunD K "is_state" "is_state" (defArgs s_is_state) (defBody s_is_state) (defScope s_is_state) [] [] f fd ∧ mg "is_state" = some (.ref f)
  f_all_outs : ∃ f fd, FunD K "all_outs" "all_outs" (defArgs s_all_outs) (defBody s_all_outs) (defScope s_all_outs) [] [] f fd ∧ mg "all_outs" = some (.ref f)
  f_is_kind : ∃ f fd, FunD K "is_kind" "is_kind" (defArgs s_is_kind) (defBody s_is_kind) (defScope s_is_kind) [] [] f fd ∧ mg "is_kind" = some (.ref f)
  f__law_well : ∃ f fd, FunD K "_law_well" "_law_well" (defArgs s__law_well) (defBody s__law_well) (defScope s__law_well) [] [] f fd ∧ mg "_law_well" = some (.ref f)
  f__law_take : ∃ f fd, FunD K "_law_take" "_law_take" (defArgs s__law_take) (defBody s__law_take) (defScope s__law_take) [] [] f fd ∧ mg "_law_take" = some (.ref f)
  f__law_barred : ∃ f fd, FunD K "_law_barred" "_law_barred" (defArgs s__law_barred) (defBody s__law_barred) (defScope s__law_barred) [] [] f fd ∧ mg "_law_barred" = some (.ref f)
  f__law_unlike : ∃ f fd, FunD K "_law_unlike" "_law_unlike" (defArgs s__law_unlike) (defBody s__law_unlike) (defScope s__law_unlike) [] [] f fd ∧ mg "_law_unlike" = some (.ref f)
  f__law_names : ∃ f fd, FunD K "_law_names" "_law_names" (defArgs s__law_names) (defBody s__law_names) (defScope s__law_names) [] [] f fd ∧ mg "_law_names" = some (.ref f)
  f__law_some : ∃ f fd, FunD K "_law_some" "_law_some" (defArgs s__law_some) (defBody s__law_some) (defScope s__law_some) [] [] f fd ∧ mg "_law_some" = some (.ref f)
  f__law_outs : ∃ f fd, FunD K "_law_outs" "_law_outs" (defArgs s__law_outs) (defBody s__law_outs) (defScope s__law_outs) [] [] f fd ∧ mg "_law_outs" = some (.ref f)
  f__law_state : ∃ f fd, FunD K "_law_state" "_law_state" (defArgs s__law_state) (defBody s__law_state) (defScope s__law_state) [] [] f fd ∧ mg "_law_state" = some (.ref f)
  f__law_kind : ∃ f fd, FunD K "_law_kind" "_law_kind" (defArgs s__law_kind) (defBody s__law_kind) (defScope s__law_kind) [] [] f fd ∧ mg "_law_kind" = some (.ref f)
  f__law_is_name : ∃ f fd, FunD K "_law_is_name" "_law_is_name" (defArgs s__law_is_name) (defBody s__law_is_name) (defScope s__law_is_name) [] [] f fd ∧ mg "_law_is_name" = some (.ref f)
  f__law_row_of : ∃ f fd, FunD K "_law_row_of" "_law_row_of" (defArgs s__law_row_of) (defBody s__law_row_of) (defScope s__law_row_of) [] [] f fd ∧ mg "_law_row_of" = some (.ref f)
  f__law_twice : ∃ f fd, FunD K "_law_twice" "_law_twice" (defArgs s__law_twice) (defBody s__law_twice) (defScope s__law_twice) [] [] f fd ∧ mg "_law_twice" = some (.ref f)
  f__law_out_right : ∃ f fd, FunD K "_law_out_right" "_law_out_right" (defArgs s__law_out_right) (defBody s__law_out_right) (defScope s__law_out_right) [] [] f fd ∧ mg "_law_out_right" = some (.ref f)
  f__law_deed_right : ∃ f fd, FunD K "_law_deed_right" "_law_deed_right" (defArgs s__law_deed_right) (defBody s__law_deed_right) (defScope s__law_deed_right) [] [] f fd ∧ mg "_law_deed_right" = some (.ref f)
  f__law_state_right : ∃ f fd, FunD K "_law_state_right" "_law_state_right" (defArgs s__law_state_right) (defBody s__law_state_right) (defScope s__law_state_right) [] [] f fd ∧ mg "_law_state_right" = some (.ref f)
  f__law_is_kind : ∃ f fd, FunD K "_law_is_kind" "_law_is_kind" (defArgs s__law_is_kind) (defBody s__law_is_kind) (defScope s__law_is_kind) [] [] f fd ∧ mg "_law_is_kind" = some (.ref f)
  f__law_odd : ∃ f fd, FunD K "_law_odd" "_law_odd" (defArgs s__law_odd) (defBody s__law_odd) (defScope s__law_odd) [] [] f fd ∧ mg "_law_odd" = some (.ref f)
  f__law_bent : ∃ f fd, FunD K "_law_bent" "_law_bent" (defArgs s__law_bent) (defBody s__law_bent) (defScope s__law_bent) [] [] f fd ∧ mg "_law_bent" = some (.ref f)
  f__law_spoilt : ∃ f fd, FunD K "_law_spoilt" "_law_spoilt" (defArgs s__law_spoilt) (defBody s__law_spoilt) (defScope s__law_spoilt) [] [] f fd ∧ mg "_law_spoilt" = some (.ref f)
  f__law_more : ∃ f fd, FunD K "_law_more" "_law_more" (defArgs s__law_more) (defBody s__law_more) (defScope s__law_more) [] [] f fd ∧ mg "_law_more" = some (.ref f)
  f_law : ∃ f fd, FunD K "law" "law" (defArgs s_law) (defBody s_law) (defScope s_law) [] [] f fd ∧ mg "law" = some (.ref f)
theorem bd_is_name {f : Addr} {fd : FuncData} (F : FunD K "is_name" "is_name" (defArgs s_is_name) (defBody s_is_name) (defScope s_is_name) [] [] f fd) : Binds K fd ["thing"] [] :=
  F.bindsN fun _ _ _ _ _ _ us hl => match us, hl with | [_], _ => rfl
theorem bd_are_unlike {f : Addr} {fd : FuncData} (F : FunD K "are_unlike" "are_unlike" (defArgs s_are_unlike) (defBody s_are_unlike) (defScope s_are_unlike) [] [] f fd) : Binds K fd ["names"] [] :=
  F.bindsN fun _ _ _ _ _ _ us hl => match us, hl with | [_], _ => rfl
theorem bd_is_maybe {f : Addr} {fd : FuncData} (F : FunD K "is_maybe" "is_maybe" (defArgs s_is_maybe) (defBody s_is_maybe) (defScope s_is_maybe) [] [] f fd) : Binds K fd ["thing"] [] :=
  F.bindsN fun _ _ _ _ _ _ us hl => match us, hl with | [_], _ => rfl
theorem bd_is_out {f : Addr} {fd : FuncData} (F : FunD K "is_out" "is_out" (defArgs s_is_out) (defBody s_is_out) (defScope s_is_out) [] [] f fd) : Binds K fd ["thing"] [] :=
  F.bindsN fun _ _ _ _ _ _ us hl => match us, hl with | [_], _ => rfl
theorem bd_is_deed {f : Addr} {fd : FuncData} (F : FunD K "is_deed" "is_deed" (defArgs s_is_deed) (defBody s_is_deed) (defScope s_is_deed) [] [] f fd) : Binds K fd ["thing"] [] :=
  F.bindsN fun _ _ _ _ _ _ us hl => match us, hl with | [_], _ => rfl
theorem bd_is_state {f : Addr} {fd : FuncData} (F : FunD K "is_state" "is_state" (defArgs s_is_state) (defBody s_is_state) (defScope s_is_state) [] [] f fd) : Binds K fd ["thing"] [] :=
  F.bindsN fun _ _ _ _ _ _ us hl => match us, hl with | [_], _ => rfl
theorem bd_all_outs {f : Addr} {fd : FuncData} (F : FunD K "all_outs" "all_outs" (defArgs s_all_outs) (defBody s_all_outs) (defScope s_all_outs) [] [] f fd) : Binds K fd ["kind"] [] :=
  F.bindsN fun _ _ _ _ _ _ us hl => match us, hl with | [_], _ => rfl
theorem bd_is_kind {f : Addr} {fd : FuncData} (F : FunD K "is_kind" "is_kind" (defArgs s_is_kind) (defBody s_is_kind) (defScope s_is_kind) [] [] f fd) : Binds K fd ["thing"] [] :=
  F.bindsN fun _ _ _ _ _ _ us hl => match us, hl with | [_], _ => rfl
theorem bd__law_well {f : Addr} {fd : FuncData} (F : FunD K "_law_well" "_law_well" (defArgs s__law_well) (defBody s__law_well) (defScope s__law_well) [] [] f fd) : Binds K fd ["_law_script", "_law_k"] [] :=
  F.bindsN fun _ _ _ _ _ _ us hl => match us, hl with | [_, _], _ => rfl
theorem bd__law_take {f : Addr} {fd : FuncData} (F : FunD K "_law_take" "_law_take" (defArgs s__law_take) (defBody s__law_take) (defScope s__law_take) [] [] f fd) : Binds K fd ["_law_well_here", "_law_many"] [] :=
  F.bindsN fun _ _ _ _ _ _ us hl => match us, hl with | [_, _], _ => rfl
theorem bd__law_barred {f : Addr} {fd : FuncData} (F : FunD K "_law_barred" "_law_barred" (defArgs s__law_barred) (defBody s__law_barred) (defScope s__law_barred) [] [] f fd) : Binds K fd [] [] :=
  F.bindsN fun _ _ _ _ _ _ us hl => match us, hl with | [], _ => rfl
theorem bd__law_unlike {f : Addr} {fd : FuncData} (F : FunD K "_law_unlike" "_law_unlike" (defArgs s__law_unlike) (defBody s__law_unlike) (defScope s__law_unlike) [] [] f fd) : Binds K fd ["_law_words"] [] :=
  F.bindsN fun _ _ _ _ _ _ us hl => match us, hl with | [_], _ => rfl
theorem bd__law_names {f : Addr} {fd : FuncData} (F : FunD K "_law_names" "_law_names" (defArgs s__law_names) (defBody s__law_names) (defScope s__law_names) [] [] f fd) : Binds K fd ["_law_well_here", "_law_many"] [] :=
  F.bindsN fun _ _ _ _ _ _ us hl => match us, hl with | [_, _], _ => rfl
theorem bd__law_some {f : Addr} {fd : FuncData} (F : FunD K "_law_some" "_law_some" (defArgs s__law_some) (defBody s__law_some) (defScope s__law_some) [] [] f fd) : Binds K fd ["_law_well_here", "_law_pool", "_law_many"] [] :=
  F.bindsN fun _ _ _ _ _ _ us hl => match us, hl with | [_, _, _], _ => rfl
theorem bd__law_outs {f : Addr} {fd : FuncData} (F : FunD K "_law_outs" "_law_outs" (defArgs s__law_outs) (defBody s__law_outs) (defScope s__law_outs) [] [] f fd) : Binds K fd ["_law_well_here", "_law_pool", "_law_states", "_law_here", "_law_kinds", "_law_spare"] [] :=
  F.bindsN fun _ _ _ _ _ _ us hl => match us, hl with | [_, _, _, _, _, _], _ => rfl
theorem bd__law_state {f : Addr} {fd : FuncData} (F : FunD K "_law_state" "_law_state" (defArgs s__law_state) (defBody s__law_state) (defScope s__law_state) [] [] f fd) : Binds K fd ["_law_well_here", "_law_pool", "_law_states", "_law_here", "_law_kinds", "_law_spare"] [] :=
  F.bindsN fun _ _ _ _ _ _ us hl => match us, hl with | [_, _, _, _, _, _], _ => rfl
theorem bd__law_kind {f : Addr} {fd : FuncData} (F : FunD K "_law_kind" "_law_kind" (defArgs s__law_kind) (defBody s__law_kind) (defScope s__law_kind) [] [] f fd) : Binds K fd ["_law_well_here", "_law_pool", "_law_name", "_law_kinds", "_law_most"] [] :=
  F.bindsN fun _ _ _ _ _ _ us hl => match us, hl with | [_, _, _, _, _], _ => rfl
theorem bd__law_is_name {f : Addr} {fd : FuncData} (F : FunD K "_law_is_name" "_law_is_name" (defArgs s__law_is_name) (defBody s__law_is_name) (defScope s__law_is_name) [] [] f fd) : Binds K fd ["_law_thing"] [] :=
  F.bindsN fun _ _ _ _ _ _ us hl => match us, hl with | [_], _ => rfl
theorem bd__law_row_of {f : Addr} {fd : FuncData} (F : FunD K "_law_row_of" "_law_row_of" (defArgs s__law_row_of) (defBody s__law_row_of) (defScope s__law_row_of) [] [] f fd) : Binds K fd ["_law_thing", "_law_low", "_law_high"] [] :=
  F.bindsN fun _ _ _ _ _ _ us hl => match us, hl with | [_, _, _], _ => rfl
theorem bd__law_twice {f : Addr} {fd : FuncData} (F : FunD K "_law_twice" "_law_twice" (defArgs s__law_twice) (defBody s__law_twice) (defScope s__law_twice) [] [] f fd) : Binds K fd ["_law_names_here"] [] :=
  F.bindsN fun _ _ _ _ _ _ us hl => match us, hl with | [_], _ => rfl
theorem bd__law_out_right {f : Addr} {fd : FuncData} (F : FunD K "_law_out_right" "_law_out_right" (defArgs s__law_out_right) (defBody s__law_out_right) (defScope s__law_out_right) [] [] f fd) : Binds K fd ["_law_out"] [] :=
  F.bindsN fun _ _ _ _ _ _ us hl => match us, hl with | [_], _ => rfl
theorem bd__law_deed_right {f : Addr} {fd : FuncData} (F : FunD K "_law_deed_right" "_law_deed_right" (defArgs s__law_deed_right) (defBody s__law_deed_right) (defScope s__law_deed_right) [] [] f fd) : Binds K fd ["_law_deed"] [] :=
  F.bindsN fun _ _ _ _ _ _ us hl => match us, hl with | [_], _ => rfl
theorem bd__law_state_right {f : Addr} {fd : FuncData} (F : FunD K "_law_state_right" "_law_state_right" (defArgs s__law_state_right) (defBody s__law_state_right) (defScope s__law_state_right) [] [] f fd) : Binds K fd ["_law_state_here"] [] :=
  F.bindsN fun _ _ _ _ _ _ us hl => match us, hl with | [_], _ => rfl
theorem bd__law_is_kind {f : Addr} {fd : FuncData} (F : FunD K "_law_is_kind" "_law_is_kind" (defArgs s__law_is_kind) (defBody s__law_is_kind) (defScope s__law_is_kind) [] [] f fd) : Binds K fd ["_law_thing"] [] :=
  F.bindsN fun _ _ _ _ _ _ us hl => match us, hl with | [_], _ => rfl
theorem bd__law_odd {f : Addr} {fd : FuncData} (F : FunD K "_law_odd" "_law_odd" (defArgs s__law_odd) (defBody s__law_odd) (defScope s__law_odd) [] [] f fd) : Binds K fd ["_law_well_here", "_law_pool"] [] :=
  F.bindsN fun _ _ _ _ _ _ us hl => match us, hl with | [_, _], _ => rfl
theorem bd__law_bent {f : Addr} {fd : FuncData} (F : FunD K "_law_bent" "_law_bent" (defArgs s__law_bent) (defBody s__law_bent) (defScope s__law_bent) [] [] f fd) : Binds K fd ["_law_well_here", "_law_thing", "_law_pool", "_law_other"] [] :=
  F.bindsN fun _ _ _ _ _ _ us hl => match us, hl with | [_, _, _, _], _ => rfl
theorem bd__law_spoilt {f : Addr} {fd : FuncData} (F : FunD K "_law_spoilt" "_law_spoilt" (defArgs s__law_spoilt) (defBody s__law_spoilt) (defScope s__law_spoilt) [] [] f fd) : Binds K fd ["_law_well_here", "_law_thing", "_law_pool", "_law_deep"] [] :=
  F.bindsN fun _ _ _ _ _ _ us hl => match us, hl with | [_, _, _, _], _ => rfl
theorem bd__law_more {f : Addr} {fd : FuncData} (F : FunD K "_law_more" "_law_more" (defArgs s__law_more) (defBody s__law_more) (defScope s__law_more) [] [] f fd) : Binds K fd ["_law_well_here", "_law_pool"] [] :=
  F.bindsN fun _ _ _ _ _ _ us hl => match us, hl with | [_, _], _ => rfl
theorem bd_law {f : Addr} {fd : FuncData} (F : FunD K "law" "law" (defArgs s_law) (defBody s_law) (defScope s_law) [] [] f fd) : Binds K fd ["_law_script"] [] :=
  F.bindsN fun _ _ _ _ _ _ us hl => match us, hl with | [_], _ => rfl
theorem hc_all (G : Glob K mg) (A : Facts K mg) : ∀ n, HC P w K mg base n (TT n)
  | 0 => fun j x ps h => by
    match j, h with
    | 0, h => cases h; obtain ⟨f, fd, F, m⟩ := A.f_is_name; exact ⟨f, fd, fnAt_bad, m, F.kp, bd_is_name F⟩
    | 1, h => cases h; obtain ⟨f, fd, F, m⟩ := A.f_are_unlike; exact ⟨f, fd, fnAt_bad, m, F.kp, bd_are_unlike F⟩
    | 2, h => cases h; obtain ⟨f, fd, F, m⟩ := A.f_is_maybe; exact ⟨f, fd, fnAt_bad, m, F.kp, bd_is_maybe F⟩
    | 3, h => cases h; obtain ⟨f, fd, F, m⟩ := A.f_is_out; exact ⟨f, fd, fnAt_bad, m, F.kp, bd_is_out F⟩
    | 4, h => cases h; obtain ⟨f, fd, F, m⟩ := A.f_is_deed; exact ⟨f, fd, fnAt_bad, m, F.kp, bd_is_deed F⟩
    | 5, h => cases h; obtain ⟨f, fd, F, m⟩ := A.f_is_state; exact ⟨f, fd, fnAt_bad, m, F.kp, bd_is_state F⟩
    | 6, h => cases h; obtain ⟨f, fd, F, m⟩ := A.f_all_outs; exact ⟨f, fd, fnAt_bad, m, F.kp, bd_all_outs F⟩
    | 7, h => cases h; obtain ⟨f, fd, F, m⟩ := A.f_is_kind; exact ⟨f, fd, fnAt_bad, m, F.kp, bd_is_kind F⟩
    | 8, h => cases h; obtain ⟨f, fd, F, m⟩ := A.f__law_well; exact ⟨f, fd, fnAt_bad, m, F.kp, bd__law_well F⟩
    | 9, h => cases h; obtain ⟨f, fd, F, m⟩ := A.f__law_take; exact ⟨f, fd, fnAt_bad, m, F.kp, bd__law_take F⟩
    | 10, h => cases h; obtain ⟨f, fd, F, m⟩ := A.f__law_barred; exact ⟨f, fd, fnAt_bad, m, F.kp, bd__law_barred F⟩
    | 11, h => cases h; obtain ⟨f, fd, F, m⟩ := A.f__law_unlike; exact ⟨f, fd, fnAt_bad, m, F.kp, bd__law_unlike F⟩
    | 12, h => cases h; obtain ⟨f, fd, F, m⟩ := A.f__law_names; exact ⟨f, fd, fnAt_bad, m, F.kp, bd__law_names F⟩
    | 13, h => cases h; obtain ⟨f, fd, F, m⟩ := A.f__law_some; exact ⟨f, fd, fnAt_bad, m, F.kp, bd__law_some F⟩
    | 14, h => cases h; obtain ⟨f, fd, F, m⟩ := A.f__law_outs; exact ⟨f, fd, fnAt_bad, m, F.kp, bd__law_outs F⟩
    | 15, h => cases h; obtain ⟨f, fd, F, m⟩ := A.f__law_state; exact ⟨f, fd, fnAt_bad, m, F.kp, bd__law_state F⟩
    | 16, h => cases h; obtain ⟨f, fd, F, m⟩ := A.f__law_kind; exact ⟨f, fd, fnAt_bad, m, F.kp, bd__law_kind F⟩
    | 17, h => cases h; obtain ⟨f, fd, F, m⟩ := A.f__law_is_name; exact ⟨f, fd, fnAt_bad, m, F.kp, bd__law_is_name F⟩
    | 18, h => cases h; obtain ⟨f, fd, F, m⟩ := A.f__law_row_of; exact ⟨f, fd, fnAt_bad, m, F.kp, bd__law_row_of F⟩
    | 19, h => cases h; obtain ⟨f, fd, F, m⟩ := A.f__law_twice; exact ⟨f, fd, fnAt_bad, m, F.kp, bd__law_twice F⟩
    | 20, h => cases h; obtain ⟨f, fd, F, m⟩ := A.f__law_out_right; exact ⟨f, fd, fnAt_bad, m, F.kp, bd__law_out_right F⟩
    | 21, h => cases h; obtain ⟨f, fd, F, m⟩ := A.f__law_deed_right; exact ⟨f, fd, fnAt_bad, m, F.kp, bd__law_deed_right F⟩
    | 22, h => cases h; obtain ⟨f, fd, F, m⟩ := A.f__law_state_right; exact ⟨f, fd, fnAt_bad, m, F.kp, bd__law_state_right F⟩
    | 23, h => cases h; obtain ⟨f, fd, F, m⟩ := A.f__law_is_kind; exact ⟨f, fd, fnAt_bad, m, F.kp, bd__law_is_kind F⟩
    | 24, h => cases h; obtain ⟨f, fd, F, m⟩ := A.f__law_odd; exact ⟨f, fd, fnAt_bad, m, F.kp, bd__law_odd F⟩
    | 25, h => cases h; obtain ⟨f, fd, F, m⟩ := A.f__law_bent; exact ⟨f, fd, fnAt_bad, m, F.kp, bd__law_bent F⟩
    | 26, h => cases h; obtain ⟨f, fd, F, m⟩ := A.f__law_spoilt; exact ⟨f, fd, fnAt_bad, m, F.kp, bd__law_spoilt F⟩
    | 27, h => cases h; obtain ⟨f, fd, F, m⟩ := A.f__law_more; exact ⟨f, fd, fnAt_bad, m, F.kp, bd__law_more F⟩
    | 28, h => cases h; obtain ⟨f, fd, F, m⟩ := A.f_law; exact ⟨f, fd, fnAt_bad, m, F.kp, bd_law F⟩
    | j + 29, h => cases h
  | n + 1 => fun j x ps h => by
    match j, h with
    | 0, h => cases h; obtain ⟨f, fd, F, m⟩ := A.f_is_name; exact ⟨f, fd, d_is_name G (hc_all G A n) F, m, F.kp, bd_is_name F⟩
    | 1, h => cases h; obtain ⟨f, fd, F, m⟩ := A.f_are_unlike; exact ⟨f, fd, d_are_unlike G (hc_all G A n) F, m, F.kp, bd_are_unlike F⟩
    | 2, h => cases h; obtain ⟨f, fd, F, m⟩ := A.f_is_maybe; exact ⟨f, fd, d_is_maybe G (hc_all G A n) F, m, F.kp, bd_is_maybe F⟩
    | 3, h => cases h; obtain ⟨f, fd, F, m⟩ := A.f_is_out; exact ⟨f, fd, d_is_out G (hc_all G A n) F, m, F.kp, bd_is_out F⟩
    | 4, h => cases h; obtain ⟨f, fd, F, m⟩ := A.f_is_deed; exact ⟨f, fd, d_is_deed G (hc_all G A n) F, m, F.kp, bd_is_deed F⟩
    | 5, h => cases h; obtain ⟨f, fd, F, m⟩ := A.f_is_state; exact ⟨f, fd, d_is_state G (hc_all G A n) F, m, F.kp, bd_is_state F⟩
    | 6, h => cases h; obtain ⟨f, fd, F, m⟩ := A.f_all_outs; exact ⟨f, fd, d_all_outs G (hc_all G A n) F, m, F.kp, bd_all_outs F⟩
    | 7, h => cases h; obtain ⟨f, fd, F, m⟩ := A.f_is_kind; exact ⟨f, fd, d_is_kind G (hc_all G A n) F, m, F.kp, bd_is_kind F⟩
    | 8, h => cases h; obtain ⟨f, fd, F, m⟩ := A.f__law_well; exact ⟨f, fd, d__law_well G (hc_all G A n) F, m, F.kp, bd__law_well F⟩
    | 9, h => cases h; obtain ⟨f, fd, F, m⟩ := A.f__law_take; exact ⟨f, fd, d__law_take G (hc_all G A n) F, m, F.kp, bd__law_take F⟩
    | 10, h => cases h; obtain ⟨f, fd, F, m⟩ := A.f__law_barred; exact ⟨f, fd, d__law_barred G (hc_all G A n) F, m, F.kp, bd__law_barred F⟩
    | 11, h => cases h; obtain ⟨f, fd, F, m⟩ := A.f__law_unlike; exact ⟨f, fd, d__law_unlike G (hc_all G A n) F, m, F.kp, bd__law_unlike F⟩
    | 12, h => cases h; obtain ⟨f, fd, F, m⟩ := A.f__law_names; exact ⟨f, fd, d__law_names G (hc_all G A n) F, m, F.kp, bd__law_names F⟩
    | 13, h => cases h; obtain ⟨f, fd, F, m⟩ := A.f__law_some; exact ⟨f, fd, d__law_some G (hc_all G A n) F, m, F.kp, bd__law_some F⟩
    | 14, h => cases h; obtain ⟨f, fd, F, m⟩ := A.f__law_outs; exact ⟨f, fd, d__law_outs G (hc_all G A n) F, m, F.kp, bd__law_outs F⟩
    | 15, h => cases h; obtain ⟨f, fd, F, m⟩ := A.f__law_state; exact ⟨f, fd, d__law_state G (hc_all G A n) F, m, F.kp, bd__law_state F⟩
    | 16, h => cases h; obtain ⟨f, fd, F, m⟩ := A.f__law_kind; exact ⟨f, fd, d__law_kind G (hc_all G A n) F, m, F.kp, bd__law_kind F⟩
    | 17, h => cases h; obtain ⟨f, fd, F, m⟩ := A.f__law_is_name; exact ⟨f, fd, d__law_is_name G (hc_all G A n) F, m, F.kp, bd__law_is_name F⟩
    | 18, h => cases h; obtain ⟨f, fd, F, m⟩ := A.f__law_row_of; exact ⟨f, fd, d__law_row_of G (hc_all G A n) F, m, F.kp, bd__law_row_of F⟩
    | 19, h => cases h; obtain ⟨f, fd, F, m⟩ := A.f__law_twice; exact ⟨f, fd, d__law_twice G (hc_all G A n) F, m, F.kp, bd__law_twice F⟩
    | 20, h => cases h; obtain ⟨f, fd, F, m⟩ := A.f__law_out_right; exact ⟨f, fd, d__law_out_right G (hc_all G A n) F, m, F.kp, bd__law_out_right F⟩
    | 21, h => cases h; obtain ⟨f, fd, F, m⟩ := A.f__law_deed_right; exact ⟨f, fd, d__law_deed_right G (hc_all G A n) F, m, F.kp, bd__law_deed_right F⟩
    | 22, h => cases h; obtain ⟨f, fd, F, m⟩ := A.f__law_state_right; exact ⟨f, fd, d__law_state_right G (hc_all G A n) F, m, F.kp, bd__law_state_right F⟩
    | 23, h => cases h; obtain ⟨f, fd, F, m⟩ := A.f__law_is_kind; exact ⟨f, fd, d__law_is_kind G (hc_all G A n) F, m, F.kp, bd__law_is_kind F⟩
    | 24, h => cases h; obtain ⟨f, fd, F, m⟩ := A.f__law_odd; exact ⟨f, fd, d__law_odd G (hc_all G A n) F, m, F.kp, bd__law_odd F⟩
    | 25, h => cases h; obtain ⟨f, fd, F, m⟩ := A.f__law_bent; exact ⟨f, fd, d__law_bent G (hc_all G A n) F, m, F.kp, bd__law_bent F⟩
    | 26, h => cases h; obtain ⟨f, fd, F, m⟩ := A.f__law_spoilt; exact ⟨f, fd, d__law_spoilt G (hc_all G A n) F, m, F.kp, bd__law_spoilt F⟩
    | 27, h => cases h; obtain ⟨f, fd, F, m⟩ := A.f__law_more; exact ⟨f, fd, d__law_more G (hc_all G A n) F, m, F.kp, bd__law_more F⟩
    | 28, h => cases h; obtain ⟨f, fd, F, m⟩ := A.f_law; exact ⟨f, fd, d_law G (hc_all G A n) F, m, F.kp, bd_law F⟩
    | j + 29, h => cases h
end
def e_is_name : He.DefD := ⟨("is_name", none), "is_name", "is_name", defArgs s_is_name, defBody s_is_name, defScope s_is_name, [], []⟩
def e_are_unlike : He.DefD := ⟨("are_unlike", none), "are_unlike", "are_unlike", defArgs s_are_unlike, defBody s_are_unlike, defScope s_are_unlike, [], []⟩
def e_is_maybe : He.DefD := ⟨("is_maybe", none), "is_maybe", "is_maybe", defArgs s_is_maybe, defBody s_is_maybe, defScope s_is_maybe, [], []⟩
def e_is_out : He.DefD := ⟨("is_out", none), "is_out", "is_out", defArgs s_is_out, defBody s_is_out, defScope s_is_out, [], []⟩
def e_is_deed : He.DefD := ⟨("is_deed", none), "is_deed", "is_deed", defArgs s_is_deed, defBody s_is_deed, defScope s_is_deed, [], []⟩
def e_is_state : He.DefD := ⟨("is_state", none), "is_state", "is_state", defArgs s_is_state, defBody s_is_state, defScope s_is_state, [], []⟩
def e_all_outs : He.DefD := ⟨("all_outs", none), "all_outs", "all_outs", defArgs s_all_outs, defBody s_all_outs, defScope s_all_outs, [], []⟩
def e_is_kind : He.DefD := ⟨("is_kind", none), "is_kind", "is_kind", defArgs s_is_kind, defBody s_is_kind, defScope s_is_kind, [], []⟩
def e__law_well : He.DefD := ⟨("_law_well", none), "_law_well", "_law_well", defArgs s__law_well, defBody s__law_well, defScope s__law_well, [], []⟩
def e__law_take : He.DefD := ⟨("_law_take", none), "_law_take", "_law_take", defArgs s__law_take, defBody s__law_take, defScope s__law_take, [], []⟩
def e__law_barred : He.DefD := ⟨("_law_barred", none), "_law_barred", "_law_barred", defArgs s__law_barred, defBody s__law_barred, defScope s__law_barred, [], []⟩
def e__law_unlike : He.DefD := ⟨("_law_unlike", none), "_law_unlike", "_law_unlike", defArgs s__law_unlike, defBody s__law_unlike, defScope s__law_unlike, [], []⟩
def e__law_names : He.DefD := ⟨("_law_names", none), "_law_names", "_law_names", defArgs s__law_names, defBody s__law_names, defScope s__law_names, [], []⟩
def e__law_some : He.DefD := ⟨("_law_some", none), "_law_some", "_law_some", defArgs s__law_some, defBody s__law_some, defScope s__law_some, [], []⟩
def e__law_outs : He.DefD := ⟨("_law_outs", none), "_law_outs", "_law_outs", defArgs s__law_outs, defBody s__law_outs, defScope s__law_outs, [], []⟩
def e__law_state : He.DefD := ⟨("_law_state", none), "_law_state", "_law_state", defArgs s__law_state, defBody s__law_state, defScope s__law_state, [], []⟩
def e__law_kind : He.DefD := ⟨("_law_kind", none), "_law_kind", "_law_kind", defArgs s__law_kind, defBody s__law_kind, defScope s__law_kind, [], []⟩
def e__law_is_name : He.DefD := ⟨("_law_is_name", none), "_law_is_name", "_law_is_name", defArgs s__law_is_name, defBody s__law_is_name, defScope s__law_is_name, [], []⟩
def e__law_row_of : He.DefD := ⟨("_law_row_of", none), "_law_row_of", "_law_row_of", defArgs s__law_row_of, defBody s__law_row_of, defScope s__law_row_of, [], []⟩
def e__law_twice : He.DefD := ⟨("_law_twice", none), "_law_twice", "_law_twice", defArgs s__law_twice, defBody s__law_twice, defScope s__law_twice, [], []⟩
def e__law_out_right : He.DefD := ⟨("_law_out_right", none), "_law_out_right", "_law_out_right", defArgs s__law_out_right, defBody s__law_out_right, defScope s__law_out_right, [], []⟩
def e__law_deed_right : He.DefD := ⟨("_law_deed_right", none), "_law_deed_right", "_law_deed_right", defArgs s__law_deed_right, defBody s__law_deed_right, defScope s__law_deed_right, [], []⟩
def e__law_state_right : He.DefD := ⟨("_law_state_right", none), "_law_state_right", "_law_state_right", defArgs s__law_state_right, defBody s__law_state_right, defScope s__law_state_right, [], []⟩
def e__law_is_kind : He.DefD := ⟨("_law_is_kind", none), "_law_is_kind", "_law_is_kind", defArgs s__law_is_kind, defBody s__law_is_kind, defScope s__law_is_kind, [], []⟩
def e__law_odd : He.DefD := ⟨("_law_odd", none), "_law_odd", "_law_odd", defArgs s__law_odd, defBody s__law_odd, defScope s__law_odd, [], []⟩
def e__law_bent : He.DefD := ⟨("_law_bent", none), "_law_bent", "_law_bent", defArgs s__law_bent, defBody s__law_bent, defScope s__law_bent, [], []⟩
def e__law_spoilt : He.DefD := ⟨("_law_spoilt", none), "_law_spoilt", "_law_spoilt", defArgs s__law_spoilt, defBody s__law_spoilt, defScope s__law_spoilt, [], []⟩
def e__law_more : He.DefD := ⟨("_law_more", none), "_law_more", "_law_more", defArgs s__law_more, defBody s__law_more, defScope s__law_more, [], []⟩
def e_law : He.DefD := ⟨("law", none), "law", "law", defArgs s_law, defBody s_law, defScope s_law, [], []⟩
def fnL : List He.DefD := ([e_is_name, e_are_unlike, e_is_maybe, e_is_out, e_is_deed, e_is_state, e_all_outs, e_is_kind, e__law_well, e__law_take, e__law_barred, e__law_unlike, e__law_names, e__law_some, e__law_outs, e__law_state, e__law_kind, e__law_is_name, e__law_row_of, e__law_twice, e__law_out_right, e__law_deed_right, e__law_state_right, e__law_is_kind, e__law_odd, e__law_bent, e__law_spoilt, e__law_more, e_law] : List He.DefD)
def faL : List He.Fa := ([.glo "is_name", .glo "are_unlike", .glo "is_maybe", .glo "is_out", .glo "is_deed", .glo "is_state", .glo "all_outs", .glo "is_kind", .glo "_law_well", .glo "_law_take", .glo "_law_barred", .glo "_law_unlike", .glo "_law_names", .glo "_law_some", .glo "_law_outs", .glo "_law_state", .glo "_law_kind", .glo "_law_is_name", .glo "_law_row_of", .glo "_law_twice", .glo "_law_out_right", .glo "_law_deed_right", .glo "_law_state_right", .glo "_law_is_kind", .glo "_law_odd", .glo "_law_bent", .glo "_law_spoilt", .glo "_law_more", .glo "law", .free "all"] : List He.Fa) ++ ([.free "bool", .free "enumerate", .free "int", .free "isinstance", .free "len", .free "list", .free "max", .free "min", .free "range", .free "set", .free "str", .free "tuple"] : List He.Fa)
def cnL : List (Str × PV) := ([("TONGUE", k_TONGUE), ("LETTERS", k_LETTERS), ("MOST_LETTERS", k_MOST_LETTERS), ("MOST_STATES", k_MOST_STATES), ("MOST_DEEDS", k_MOST_DEEDS), ("MOST_OUTS", k_MOST_OUTS)] : List (Str × PV))
def exL (K : PySem.W.Frag) : Bool := cnL.all fun p => chkG K p
abbrev R0 : PySem.W.OpenRow := PySem.W.OpenLaw.row PySem.Challenge.rw_inorder_k02_what_is_a_kind
def loose0 : List Str := (["TONGUE", "LETTERS", "MOST_LETTERS", "MOST_STATES", "MOST_DEEDS", "MOST_OUTS", "is_name", "are_unlike", "is_maybe", "is_out", "is_deed", "is_state", "all_outs", "is_kind", "_law_well", "_law_take", "_law_barred", "_law_unlike", "_law_names", "_law_some", "_law_outs", "_law_state", "_law_kind", "_law_is_name", "_law_row_of", "_law_twice", "_law_out_right", "_law_deed_right", "_law_state_right", "_law_is_kind"] : List Str) ++ (["_law_odd", "_law_bent", "_law_spoilt", "_law_more"] : List Str)
abbrev hk : PySem.W.Hook := He.hookX 4 faL fnL [] [] exL
def ob (s : PySem.W.SharedT) : He.AlX := He.obsX 4 faL fnL [] [] exL (HandSHeadRun.getT s)
theorem ob_eq (s : PySem.W.SharedT) : ob s = hk.obs s.abs := He.obsX_eq (HandSHeadRun.getT_eq s)
theorem run (w : World) : HandSHeadRun.RunEq R0 (PySem.W.view R0.prog [37]) hk ob 4000 loose0 w := by
  intro os
  kernel_rfl
theorem facts_of {w : World} {K : PySem.W.Frag} {h : Heap} {mg : Str → Option Value} (X : K.In h) (G : h.Ns mainGlobals mg) (c : He.SaysX faL fnL [] [] exL w h K) : Glob K mg ∧ Facts K mg := by
  have cd := c.t.d
  have cm : ∀ p ∈ cnL, chkG K p = true := List.all_eq_true.mp c.more
  refine ⟨⟨?z_all, ?z_bool, ?z_enumerate, ?z_int, ?z_isinstance, ?z_len, ?z_list, ?z_max, ?z_min, ?z_range, ?z_set, ?z_str, ?z_tuple, ?g_TONGUE, ?g_LETTERS, ?g_MOST_LETTERS, ?g_MOST_STATES, ?g_MOST_DEEDS, ?g_MOST_OUTS⟩, ⟨?f_is_name, ?f_are_unlike, ?f_is_maybe, ?f_is_out, ?f_is_deed, ?f_is_state, ?f_all_outs, ?f_is_kind, ?f__law_well, ?f__law_take, ?f__law_barred, ?f__law_unlike, ?f__law_names, ?f__law_some, ?f__law_outs, ?f__law_state, ?f__law_kind, ?f__law_is_name, ?f__law_row_of, ?f__law_twice, ?f__law_out_right, ?f__law_deed_right, ?f__law_state_right, ?f__law_is_kind, ?f__law_odd, ?f__law_bent, ?f__law_spoilt, ?f__law_more, ?f_law⟩⟩
  case z_all => exact He.free_ok X G (cd.fact 29 (f := .free "all") rfl)
  case z_bool => exact He.free_ok X G (cd.fact 30 (f := .free "bool") rfl)
  case z_enumerate => exact He.free_ok X G (cd.fact 31 (f := .free "enumerate") rfl)
  case z_int => exact He.free_ok X G (cd.fact 32 (f := .free "int") rfl)
  case z_isinstance => exact He.free_ok X G (cd.fact 33 (f := .free "isinstance") rfl)
  case z_len => exact He.free_ok X G (cd.fact 34 (f := .free "len") rfl)
  case z_list => exact He.free_ok X G (cd.fact 35 (f := .free "list") rfl)
  case z_max => exact He.free_ok X G (cd.fact 36 (f := .free "max") rfl)
  case z_min => exact He.free_ok X G (cd.fact 37 (f := .free "min") rfl)
  case z_range => exact He.free_ok X G (cd.fact 38 (f := .free "range") rfl)
  case z_set => exact He.free_ok X G (cd.fact 39 (f := .free "set") rfl)
  case z_str => exact He.free_ok X G (cd.fact 40 (f := .free "str") rfl)
  case z_tuple => exact He.free_ok X G (cd.fact 41 (f := .free "tuple") rfl)
  case g_TONGUE => exact chkG_ok X G (cm ("TONGUE", k_TONGUE) (List.mem_of_getElem? (i := 0) rfl))
  case g_LETTERS => exact chkG_ok X G (cm ("LETTERS", k_LETTERS) (List.mem_of_getElem? (i := 1) rfl))
  case g_MOST_LETTERS => exact chkG_ok X G (cm ("MOST_LETTERS", k_MOST_LETTERS) (List.mem_of_getElem? (i := 2) rfl))
  case g_MOST_STATES => exact chkG_ok X G (cm ("MOST_STATES", k_MOST_STATES) (List.mem_of_getElem? (i := 3) rfl))
  case g_MOST_DEEDS => exact chkG_ok X G (cm ("MOST_DEEDS", k_MOST_DEEDS) (List.mem_of_getElem? (i := 4) rfl))
  case g_MOST_OUTS => exact chkG_ok X G (cm ("MOST_OUTS", k_MOST_OUTS) (List.mem_of_getElem? (i := 5) rfl))
  case f_is_name => obtain ⟨fd, F⟩ := cd.def_ 0 (d := e_is_name) rfl; exact ⟨_, fd, F, He.glo_ok X G (cd.fact 0 (f := .glo "is_name") rfl)⟩
  case f_are_unlike => obtain ⟨fd, F⟩ := cd.def_ 1 (d := e_are_unlike) rfl; exact ⟨_, fd, F, He.glo_ok X G (cd.fact 1 (f := .glo "are_unlike") rfl)⟩
  case f_is_maybe => obtain ⟨fd, F⟩ := cd.def_ 2 (d := e_is_maybe) rfl; exact ⟨_, fd, F, He.glo_ok X G (cd.fact 2 (f := .glo "is_maybe") rfl)⟩
  case f_is_out => obtain ⟨fd, F⟩ := cd.def_ 3 (d := e_is_out) rfl; exact ⟨_, fd, F, He.glo_ok X G (cd.fact 3 (f := .glo "is_out") rfl)⟩
  case f_is_deed => obtain ⟨fd, F⟩ := cd.def_ 4 (d := e_is_deed) rfl; exact ⟨_, fd, F, He.glo_ok X G (cd.fact 4 (f := .glo "is_deed") rfl)⟩
  case f_is_state => obtain ⟨fd, F⟩ := cd.def_ 5 (d := e_is_state) rfl; exact ⟨_, fd, F, He.glo_ok X G (cd.fact 5 (f := .glo "is_state") rfl)⟩
  case f_all_outs => obtain ⟨fd, F⟩ := cd.def_ 6 (d := e_all_outs) rfl; exact ⟨_, fd, F, He.glo_ok X G (cd.fact 6 (f := .glo "all_outs") rfl)⟩
  case f_is_kind => obtain ⟨fd, F⟩ := cd.def_ 7 (d := e_is_kind) rfl; exact ⟨_, fd, F, He.glo_ok X G (cd.fact 7 (f := .glo "is_kind") rfl)⟩
  case f__law_well => obtain ⟨fd, F⟩ := cd.def_ 8 (d := e__law_well) rfl; exact ⟨_, fd, F, He.glo_ok X G (cd.fact 8 (f := .glo "_law_well") rfl)⟩
  case f__law_take => obtain ⟨fd, F⟩ := cd.def_ 9 (d := e__law_take) rfl; exact ⟨_, fd, F, He.glo_ok X G (cd.fact 9 (f := .glo "_law_take") rfl)⟩
  case f__law_barred => obtain ⟨fd, F⟩ := cd.def_ 10 (d := e__law_barred) rfl; exact ⟨_, fd, F, He.glo_ok X G (cd.fact 10 (f := .glo "_law_barred") rfl)⟩
  case f__law_unlike => obtain ⟨fd, F⟩ := cd.def_ 11 (d := e__law_unlike) rfl; exact ⟨_, fd, F, He.glo_ok X G (cd.fact 11 (f := .glo "_law_unlike") rfl)⟩
  case f__law_names => obtain ⟨fd, F⟩ := cd.def_ 12 (d := e__law_names) rfl; exact ⟨_, fd, F, He.glo_ok X G (cd.fact 12 (f := .glo "_law_names") rfl)⟩
  case f__law_some => obtain ⟨fd, F⟩ := cd.def_ 13 (d := e__law_some) rfl; exact ⟨_, fd, F, He.glo_ok X G (cd.fact 13 (f := .glo "_law_some") rfl)⟩
  case f__law_outs => obtain ⟨fd, F⟩ := cd.def_ 14 (d := e__law_outs) rfl; exact ⟨_, fd, F, He.glo_ok X G (cd.fact 14 (f := .glo "_law_outs") rfl)⟩
  case f__law_state => obtain ⟨fd, F⟩ := cd.def_ 15 (d := e__law_state) rfl; exact ⟨_, fd, F, He.glo_ok X G (cd.fact 15 (f := .glo "_law_state") rfl)⟩
  case f__law_kind => obtain ⟨fd, F⟩ := cd.def_ 16 (d := e__law_kind) rfl; exact ⟨_, fd, F, He.glo_ok X G (cd.fact 16 (f := .glo "_law_kind") rfl)⟩
  case f__law_is_name => obtain ⟨fd, F⟩ := cd.def_ 17 (d := e__law_is_name) rfl; exact ⟨_, fd, F, He.glo_ok X G (cd.fact 17 (f := .glo "_law_is_name") rfl)⟩
  case f__law_row_of => obtain ⟨fd, F⟩ := cd.def_ 18 (d := e__law_row_of) rfl; exact ⟨_, fd, F, He.glo_ok X G (cd.fact 18 (f := .glo "_law_row_of") rfl)⟩
  case f__law_twice => obtain ⟨fd, F⟩ := cd.def_ 19 (d := e__law_twice) rfl; exact ⟨_, fd, F, He.glo_ok X G (cd.fact 19 (f := .glo "_law_twice") rfl)⟩
  case f__law_out_right => obtain ⟨fd, F⟩ := cd.def_ 20 (d := e__law_out_right) rfl; exact ⟨_, fd, F, He.glo_ok X G (cd.fact 20 (f := .glo "_law_out_right") rfl)⟩
  case f__law_deed_right => obtain ⟨fd, F⟩ := cd.def_ 21 (d := e__law_deed_right) rfl; exact ⟨_, fd, F, He.glo_ok X G (cd.fact 21 (f := .glo "_law_deed_right") rfl)⟩
  case f__law_state_right => obtain ⟨fd, F⟩ := cd.def_ 22 (d := e__law_state_right) rfl; exact ⟨_, fd, F, He.glo_ok X G (cd.fact 22 (f := .glo "_law_state_right") rfl)⟩
  case f__law_is_kind => obtain ⟨fd, F⟩ := cd.def_ 23 (d := e__law_is_kind) rfl; exact ⟨_, fd, F, He.glo_ok X G (cd.fact 23 (f := .glo "_law_is_kind") rfl)⟩
  case f__law_odd => obtain ⟨fd, F⟩ := cd.def_ 24 (d := e__law_odd) rfl; exact ⟨_, fd, F, He.glo_ok X G (cd.fact 24 (f := .glo "_law_odd") rfl)⟩
  case f__law_bent => obtain ⟨fd, F⟩ := cd.def_ 25 (d := e__law_bent) rfl; exact ⟨_, fd, F, He.glo_ok X G (cd.fact 25 (f := .glo "_law_bent") rfl)⟩
  case f__law_spoilt => obtain ⟨fd, F⟩ := cd.def_ 26 (d := e__law_spoilt) rfl; exact ⟨_, fd, F, He.glo_ok X G (cd.fact 26 (f := .glo "_law_spoilt") rfl)⟩
  case f__law_more => obtain ⟨fd, F⟩ := cd.def_ 27 (d := e__law_more) rfl; exact ⟨_, fd, F, He.glo_ok X G (cd.fact 27 (f := .glo "_law_more") rfl)⟩
  case f_law => obtain ⟨fd, F⟩ := cd.def_ 28 (d := e_law) rfl; exact ⟨_, fd, F, He.glo_ok X G (cd.fact 28 (f := .glo "law") rfl)⟩
end My
open PySem PySem.W PySem.Calls PyProof.Rows
theorem PySem.Challenge.cw_inorder_k02_what_is_a_kind_holds : PySem.Challenge.rw_inorder_k02_what_is_a_kind.Holds := by
  w_on; o_law
  refine HandSHeadRun.head_any (r := OpenLaw.row PySem.Challenge.rw_inorder_k02_what_is_a_kind) (q := view (OpenLaw.row PySem.Challenge.rw_inorder_k02_what_is_a_kind).prog [37]) (H := My.hk) (ob := My.ob) (M := 4000) (loose := My.loose0) (d := HandSHeadRun.topDef (OpenLaw.row PySem.Challenge.rw_inorder_k02_what_is_a_kind).prog 37) (kwd := []) My.ob_eq
    (by kernel_rfl) (fun s => by kernel_rfl) My.run (by kernel_rfl) (by kernel_rfl) (by kernel_rfl) (by rfl) (by first | assumption | decide +kernel) (by decide +kernel) ⟨rfl, rfl, rfl, rfl, rfl, by decide +kernel⟩ ?hw ?hc
  case hw => w_witness2
  case hc =>
    refine Ev.walk_ofE2 (l := PySem.Challenge.rw_inorder_k02_what_is_a_kind) (n := 63) (k := 230) (x := "_law_script") rfl (by decide) (by kernel_rfl) Ev.room230 ?F
    intro w mg fa h Y G hmg0
    obtain ⟨K, KX, c⟩ := Y
    obtain ⟨Gl, Fa⟩ := My.facts_of KX G c
    have hmg : mg ("law" : PySem.Str) = some (.ref fa) := by
      have e : (HandSHeadRun.topDef (OpenLaw.row PySem.Challenge.rw_inorder_k02_what_is_a_kind).prog 37).name = ("law" : PySem.Str) := by kernel_rfl
      rw [← e]
      exact hmg0
    obtain ⟨f, fd, F, m⟩ := Fa.f_law
    have e := hmg.symm.trans m
    cases e
    have b := L2.FunD.bindsA (ps := ["_law_script"]) F fun _ _ _ _ _ _ us hl => match us, hl with | [_], _ => rfl
    exact ⟨K, fd, _, KX, fun s v => b s [v] rfl, fun H a ns hl hO hS => Ev.law_sp My.law_true hl hO hS, fun base _ _ => My.d_law Gl (My.hc_all Gl Fa 229) F⟩
