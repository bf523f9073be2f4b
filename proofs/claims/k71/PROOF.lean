import PyProof.Rows.All
import Wide.All
import OpenK.AllK
import Wide.FinOn
import HandS.ForMost
import HandS.ForExc
import HandS.TupAny
import HandS.IsInst
import HandS.Wide
import KE.KeyNested
import KE.KDictKeyed
import HandS.Codes
import HandS.Replace
import HandS.Conv
import HandS.Defaults
import KE.KStateDown
import HandS.More
import HandS.Head0
import HandS.Head1
import HandS.Head2
import HandS.HeadEnd
import HandS.HeadHook1
import HandS.HeadHook2
import HandS.HeadHook3
import HandS.HeadHook4
import HandS.Style
import HandS.Strs
import KE.GoesEnum
import HandS.Zip
import HandS.TupMul
import HandS.TupLe
import HandS.SortOrd
import HandS.SortRule
import KE.KSortTupAny
import HandS.StrMore
import HandS.RaiseMore
import KE.KExcIs
import HandS.ExcInit
import HandS.ExcIs
import HandS.ExcField
import HandS.ExcOwn
import HandS.HotCalls
import HandS.Set
import HandS.Flow
import PyProof.StrLawsChain
import PyProof.StrLawsTight
import HandS.NoneIn
import KE.KDictZip
import KE.KTurns
import KE.KTab
import HandS.WordsDict
import PyProof.ByEval2
import KE.KDictDisplayH
import KE.KEqDict
import KE.KDictWalk
import KE.KDictSum
import HandS.SetKeys
import PySem.Challenge.RW_inorder_k71_states_behind_deeds
section
set_option Elab.async false
set_option linter.all false
set_option maxRecDepth 100000
set_option maxHeartbeats 0
namespace Ev
open PySem PySem.Spec PyProof.Rows L2
/-! Fw1: values as data, a store of the things that change, and what an expression or a statement is worth over them. -/
section

/-- a value: tuples are data; ref i: the i-th thing of the store; frl: a list that nobody changes -/
inductive PV where
  | non | bl (b : Bool) | int (i : Int) | str (x : Str) | tup (xs : List PV) | ref (i : Nat) | frl (xs : List PV)
/-- a thing that changes -/
inductive PObj where
  | lst (xs : List PV) | dic (kvs : List (Key × PV)) | ins (C : Str) (fs : List (Str × PV)) | exn (C : Str) (fs : List (Str × PV))
  /-- a dict while it is walked; a dict whose keys are tuples; this one while it is walked -/
  | dicW (kvs : List (Key × PV)) | dicN (kvs : List (PV × PV)) | dicM (kvs : List (PV × PV))
abbrev Store := List PObj
abbrev Env' := List (Option PV)
/-- what is raised: the class's name, its one field -/
structure PX where
  nm : Str
  fd : List (Str × PV)
inductive Res (α : Type) where
  | ok (a : α) (S : Store) | exc (e : PX) (S : Store) | bad
inductive SR where
  | nx (ρ : Env') (S : Store) | ret (v : PV) (S : Store) | brk (ρ : Env') (S : Store) | cnt (ρ : Env') (S : Store) | exc (e : PX) (ρ : Env') (S : Store) | bad
abbrev TV := Env' → Store → Res PV
abbrev TB := Env' → Store → Res Bool
/-- a list: its items, its number in the store (none: a new one) -/
abbrev LL := List PV × Option Nat
abbrev TL := Env' → Store → Res LL
/-- what a walk hangs on: lists of the store, as they stand -/
inductive Lk where
  | one (j : Nat) (xs : List PV) | two (j : Nat) (xs : List PV) (k : Nat) (ys : List PV) | dic (j : Nat) (kvs : List (Key × PV)) | dicN (j : Nat) (kvs : List (PV × PV))
/-- what is walked: its items, what it hangs on (none: nothing that changes) -/
abbrev LI := List PV × Option Lk
abbrev TIt := Env' → Store → Res LI
abbrev TVs := Env' → Store → Res (List PV)
abbrev TSt := Env' → Store → SR

def Res.bind {α β : Type} (r : Res α) (f : α → Store → Res β) : Res β := match r with
  | .ok a S => f a S
  | .exc e S => .exc e S
  | .bad => .bad
@[simp] theorem bind_ok {α β : Type} (a : α) (S : Store) (f : α → Store → Res β) : (Res.ok a S).bind f = f a S := rfl
@[simp] theorem bind_exc {α β : Type} (e : PX) (S : Store) (f : α → Store → Res β) : (Res.exc e S).bind f = .exc e S := rfl
@[simp] theorem bind_bad {α β : Type} (f : α → Store → Res β) : (Res.bad : Res α).bind f = .bad := rfl

/-! ### how data stand in the heap -/
/-- a text as it may stand: not too long, of code points -/
def SOk (x : Str) : Prop := x.length ≤ sizeLine ∧ PyData.strOk x = true
instance (x : Str) : Decidable (SOk x) := inferInstanceAs (Decidable (_ ∧ _))
/-- a list that nobody changes -/
def FL (K : PySem.W.Frag) (H : Hp) (a : Addr) (vs : List V) : Prop := (∃ o, H a = some (.frz o (.lst vs))) ∨
  ∃ (o : Obj) (its : Array Value) (n : Nat), K.lookup a = some o ∧ o.cls = .type "list" ∧ o.dict = none ∧ o.data = .seq its n ∧ its.size ≤ sizeLine ∧ Vals vs its.toList
theorem FL.sq {K : PySem.W.Frag} {H : Hp} {a : Addr} {vs : List V} (h : FL K H a vs) : SqL K H a vs := by
  rcases h with ⟨o, h⟩ | h
  · exact .inl (.inr ⟨o, h⟩)
  · exact .inr h
/-- a tuple whose object is known to have no dict of its own -/
def SqD (K : PySem.W.Frag) (H : Hp) (a : Addr) (vs : List V) : Prop := (∃ o : Obj, o.dict = none ∧ H a = some (.frz o (.tup vs))) ∨
  ∃ (o : Obj) (its : Array Value) (n : Nat), K.lookup a = some o ∧ o.cls = .type "tuple" ∧ o.dict = none ∧ o.data = .seq its n ∧ its.size ≤ sizeLine ∧ Vals vs its.toList
theorem SqD.sq {K : PySem.W.Frag} {H : Hp} {a : Addr} {vs : List V} (h : SqD K H a vs) : SqT K H a vs := by
  rcases h with ⟨o, _, h⟩ | ⟨o, its, n, h1, h2, _, h4⟩
  · exact .inl (.inr ⟨o, h⟩)
  · exact .inr ⟨o, its, n, h1, h2, h4⟩
theorem SqD.of {K : PySem.W.Frag} {H : Hp} {a : Addr} {vs : List V} {o : Obj} (d : o.dict = none) : SqD K (upd H a (.frz o (.tup vs))) a vs := .inl ⟨o, d, upd_same⟩
mutual
inductive RV (K : PySem.W.Frag) (μ : List Addr) (H : Hp) : PV → V → Prop
  | non : RV K μ H .non .non
  | bl (b : Bool) : RV K μ H (.bl b) (.bl b)
  | int (i : Int) : RV K μ H (.int i) (.int i)
  | str (x : Str) (h : SOk x) : RV K μ H (.str x) (.str x)
  | tup {a : Addr} {xs : List PV} {vs : List V} (s : SqD K H a vs) (l : xs.length ≤ sizeLine) (r : RVs K μ H xs vs) : RV K μ H (.tup xs) (.ref a)
  | ref {i : Nat} {a : Addr} (h : μ[i]? = some a) : RV K μ H (.ref i) (.ref a)
  | frl {a : Addr} {xs : List PV} {vs : List V} (s : FL K H a vs) (l : xs.length ≤ sizeLine) (r : RVs K μ H xs vs) : RV K μ H (.frl xs) (.ref a)
inductive RVs (K : PySem.W.Frag) (μ : List Addr) (H : Hp) : List PV → List V → Prop
  | nil : RVs K μ H [] []
  | cons {x : PV} {v : V} {xs : List PV} {vs : List V} (h : RV K μ H x v) (t : RVs K μ H xs vs) : RVs K μ H (x :: xs) (v :: vs)
end
def RKs (K : PySem.W.Frag) (μ : List Addr) (H : Hp) {κ : Type} : List (κ × PV) → List (κ × V) → Prop := Paired fun p q => p.1 = q.1 ∧ RV K μ H p.2 q.2
mutual
/-- data as a key -/
def PV.nk : PV → Option NestedKey
  | .non => some .none
  | .bl b => some (.num (if b then 1 else 0))
  | .int i => some (.num i)
  | .str x => some (.text x)
  | .tup xs => (PV.nks xs).map .tup
  | _ => none
def PV.nks : List PV → Option (List NestedKey)
  | [] => some []
  | x :: xs => match PV.nk x, PV.nks xs with
    | some k, some ks => some (k :: ks)
    | _, _ => none
end
/-- what the names of the module stand for (their classes), and where all runs -/
structure CM where
  c : Str → Value → Prop
  P : Program
  w : World
instance : CoeFun CM (fun _ => Str → Value → Prop) := ⟨CM.c⟩
/-- at a: a dict with these entries, by the keys' own objects -/
def dN (P : Program) (w : World) (a : Addr) (xs : List (NestedKey × Addr × Value)) : HO := .ext fun h => ∃ o es ep, h.get? a = some o ∧ o.ExactDict ∧ o.data = .dict es ep ∧ es.toList = xs.map (entryOfKey (nestedKind P w)) ∧ (xs.map (·.1)).Nodup
def RNs (K : PySem.W.Frag) (μ : List Addr) (H : Hp) : List (PV × PV) → List (NestedKey × Addr × Value) → Prop := Paired fun p x => p.1.nk = some x.1 ∧ x.1.depth ≤ 8 ∧ RV K μ H p.1 (.ref x.2.1) ∧ ∃ u, RelV u x.2.2 ∧ RV K μ H p.2 u
/-- at a stands just this object -/
abbrev exnO (a : Addr) (oe : Obj) : HO := .ext fun h => h.get? a = some oe
def RO (K : PySem.W.Frag) (cm : CM) (μ : List Addr) (H : Hp) (a : Addr) : PObj → Prop
  | .lst xs => ∃ vs, H a = some (.lst vs) ∧ xs.length ≤ sizeLine ∧ RVs K μ H xs vs
  | .dic kvs => ∃ kv, H a = some (.dK kv) ∧ kvs.length ≤ sizeLine ∧ RKs K μ H kvs kv
  | .ins C fs => ∃ Ca dx fv, cm C (.ref Ca) ∧ H a = some (.ins Ca dx fv) ∧ fs.length ≤ 900 ∧ RKs K μ H fs fv
  | .exn C fs => ∃ cls oe d, cm C cls ∧ H a = some (exnO a oe) ∧ Zc cls d oe ∧ (∃ vs, oe.data = .fields vs) ∧ ((fs = [] ∧ d = none) ∨ ∃ da fv, d = some da ∧ H da = some (.xd fv) ∧ RKs K μ H fs fv)
  | .dicW kvs => ∃ o kv, H a = some (.frz o (.dK kv)) ∧ kvs.length ≤ sizeLine ∧ RKs K μ H kvs kv
  | .dicN kvs => ∃ xs, H a = some (dN cm.P cm.w a xs) ∧ (a == sysModules) = false ∧ kvs.length ≤ sizeLine ∧ RNs K μ H kvs xs
  | .dicM kvs => ∃ o xs, H a = some (.frz o (dN cm.P cm.w a xs)) ∧ (a == sysModules) = false ∧ kvs.length ≤ sizeLine ∧ RNs K μ H kvs xs
structure Ext (μ : List Addr) (H : Hp) (μ' : List Addr) (H' : Hp) : Prop where
  pre : ∀ (i : Nat) (a : Addr), μ[i]? = some a → μ'[i]? = some a
  new : ∀ b ∈ μ', b ∈ μ ∨ H b = none
  kp : ∀ b o, H b = some o → b ∉ μ → H' b = some o
  kz : ∀ b o u, H b = some (.frz o u) → H' b = some (.frz o u)
/-- what data ask of a step -/
structure Up (μ : List Addr) (H : Hp) (μ' : List Addr) (H' : Hp) : Prop where
  pre : ∀ (i : Nat) (a : Addr), μ[i]? = some a → μ'[i]? = some a
  kp : ∀ b o, H b = some o → b ∉ μ → H' b = some o
  kz : ∀ b o u, H b = some (.frz o u) → H' b = some (.frz o u)
theorem Ext.up {μ μ' : List Addr} {H H' : Hp} (e : Ext μ H μ' H') : Up μ H μ' H' := ⟨e.pre, e.kp, e.kz⟩
structure RS (K : PySem.W.Frag) (cm : CM) (μ : List Addr) (S : Store) (H : Hp) : Prop where
  len : μ.length = S.length
  nd : μ.Nodup
  ob : ∀ (i : Nat) (a : Addr) (o : PObj), μ[i]? = some a → S[i]? = some o → RO K cm μ H a o
def RE (K : PySem.W.Frag) (μ : List Addr) (H : Hp) (ρ : Env') (σ : L2.St) : Prop :=
  ρ.length = σ.length ∧ ∀ (i : Nat) (x : PV), ρ[i]? = some (some x) → ∃ v, σ[i]? = some (some v) ∧ RV K μ H x v
section
variable {K : PySem.W.Frag} {cm : CM} {μ μ' μ1 μ2 : List Addr} {H H' H1 H2 : Hp} {S S' : Store} {ρ : Env'} {σ : L2.St}
theorem Ext.refl : Ext μ H μ H := ⟨fun _ _ h => h, fun _ h => .inl h, fun _ _ h _ => h, fun _ _ _ h => h⟩
theorem Ext.trans (a : Ext μ H μ1 H1) (b : Ext μ1 H1 μ2 H2) : Ext μ H μ2 H2 where
  pre := fun i x h => b.pre i x (a.pre i x h)
  new := fun x h => by
    rcases b.new x h with h1 | h1
    · exact a.new x h1
    · by_cases hm : x ∈ μ
      · exact .inl hm
      · refine .inr ?_
        cases e : H x with
        | none => rfl
        | some o => rw [a.kp x o e hm] at h1; cases h1
  kp := fun x o h hm => b.kp x o (a.kp x o h hm) fun h1 => by
    rcases a.new x h1 with h2 | h2
    · exact hm h2
    · rw [h] at h2; cases h2
  kz := fun x o u h => b.kz x o u (a.kz x o u h)
/-- what a thing of the store is at its address -/
theorem RS.mem (R : RS K cm μ S H) {a : Addr} (h : a ∈ μ) : ∃ (i : Nat) (o : PObj), μ[i]? = some a ∧ S[i]? = some o ∧ RO K cm μ H a o := by
  obtain ⟨i, hi⟩ := List.mem_iff_getElem?.mp h
  have hl : i < S.length := by
    rw [← R.len]; exact (List.getElem?_eq_some_iff.mp hi).1
  exact ⟨i, S[i], hi, List.getElem?_eq_getElem hl, R.ob i a _ hi (List.getElem?_eq_getElem hl)⟩
theorem RS.notXd (R : RS K cm μ S H) {a : Addr} {fv : List (Str × V)} (h : H a = some (.xd fv)) : a ∉ μ := fun hm => by
  obtain ⟨i, o, _, _, r⟩ := R.mem hm
  cases o with
  | lst xs => obtain ⟨ws, e, _⟩ := r; rw [e] at h; cases h
  | dic xs => obtain ⟨ws, e, _⟩ := r; rw [e] at h; cases h
  | ins C fs => obtain ⟨Ca, dx, ws, _, e, _⟩ := r; rw [e] at h; cases h
  | exn C fs => obtain ⟨cls, oe, d, _, e, _⟩ := r; rw [e] at h; cases h
  | dicW xs => obtain ⟨ob, ws, e, _⟩ := r; rw [e] at h; cases h
  | dicN xs => obtain ⟨ws, e, _⟩ := r; rw [e] at h; cases h
  | dicM xs => obtain ⟨ob, ws, e, _⟩ := r; rw [e] at h; cases h
theorem RS.tupS (R : RS K cm μ S H) (E : Up μ H μ' H') {a : Addr} {vs : List V} (h : SqD K H a vs) : SqD K H' a vs := by
  rcases h with ⟨o, d, h⟩ | h
  · exact .inl ⟨o, d, E.kz _ _ _ h⟩
  · exact .inr h
theorem RS.flS (R : RS K cm μ S H) (E : Up μ H μ' H') {a : Addr} {vs : List V} (h : FL K H a vs) : FL K H' a vs := by
  rcases h with ⟨o, h⟩ | h
  · exact .inl ⟨o, E.kz _ _ _ h⟩
  · exact .inr h
mutual
theorem RV.mono' (R : RS K cm μ S H) (E : Up μ H μ' H') : ∀ {x : PV} {v : V}, RV K μ H x v → RV K μ' H' x v
  | _, _, .non => .non
  | _, _, .bl b => .bl b
  | _, _, .int i => .int i
  | _, _, .str x h => .str x h
  | _, _, .tup s l r => .tup (R.tupS E s) l (RVs.mono' R E r)
  | _, _, .ref h => .ref (E.pre _ _ h)
  | _, _, .frl s l r => .frl (R.flS E s) l (RVs.mono' R E r)
theorem RVs.mono' (R : RS K cm μ S H) (E : Up μ H μ' H') : ∀ {xs : List PV} {vs : List V}, RVs K μ H xs vs → RVs K μ' H' xs vs
  | _, _, .nil => .nil
  | _, _, .cons h t => .cons (RV.mono' R E h) (RVs.mono' R E t)
end
theorem RV.mono (R : RS K cm μ S H) (E : Ext μ H μ' H') {x : PV} {v : V} (h : RV K μ H x v) : RV K μ' H' x v := h.mono' R E.up
theorem RVs.mono (R : RS K cm μ S H) (E : Ext μ H μ' H') {xs : List PV} {vs : List V} (h : RVs K μ H xs vs) : RVs K μ' H' xs vs := h.mono' R E.up
theorem RKs.mono' {κ : Type} (R : RS K cm μ S H) (E : Up μ H μ' H') {xs : List (κ × PV)} {vs : List (κ × V)} (h : RKs K μ H xs vs) : RKs K μ' H' xs vs :=
  Paired.mapP h fun _ _ r => ⟨r.1, r.2.mono' R E⟩
theorem RNs.mono' (R : RS K cm μ S H) (E : Up μ H μ' H') {xs : List (PV × PV)} {vs : List (NestedKey × Addr × Value)} (h : RNs K μ H xs vs) : RNs K μ' H' xs vs :=
  Paired.mapP h fun _ _ r => ⟨r.1, r.2.1, r.2.2.1.mono' R E, let ⟨u, h1, h2⟩ := r.2.2.2; ⟨u, h1, h2.mono' R E⟩⟩
theorem RKs.mono {κ : Type} (R : RS K cm μ S H) (E : Ext μ H μ' H') {xs : List (κ × PV)} {vs : List (κ × V)} (h : RKs K μ H xs vs) : RKs K μ' H' xs vs := h.mono' R E.up
theorem RE.mono' (R : RS K cm μ S H) (E : Up μ H μ' H') (h : RE K μ H ρ σ) : RE K μ' H' ρ σ :=
  ⟨h.1, fun i x e => let ⟨v, e', r⟩ := h.2 i x e; ⟨v, e', r.mono' R E⟩⟩
theorem RE.mono (R : RS K cm μ S H) (E : Ext μ H μ' H') (h : RE K μ H ρ σ) : RE K μ' H' ρ σ := h.mono' R E.up
theorem RVs.length : ∀ {xs : List PV} {vs : List V}, RVs K μ H xs vs → xs.length = vs.length
  | _, _, .nil => rfl
  | _, _, .cons _ t => by simp [t.length]
theorem RVs.append : ∀ {xs ys : List PV} {vs ws : List V}, RVs K μ H xs vs → RVs K μ H ys ws → RVs K μ H (xs ++ ys) (vs ++ ws)
  | _, _, _, _, .nil, s => s
  | _, _, _, _, .cons r t, s => .cons r (t.append s)
theorem RVs.take : ∀ {xs : List PV} {vs : List V} (n : Nat), RVs K μ H xs vs → RVs K μ H (xs.take n) (vs.take n)
  | _, _, 0, _ => .nil
  | _, _, _ + 1, .nil => .nil
  | _, _, n + 1, .cons r t => .cons r (t.take n)
theorem RVs.drop : ∀ {xs : List PV} {vs : List V} (n : Nat), RVs K μ H xs vs → RVs K μ H (xs.drop n) (vs.drop n)
  | _, _, 0, r => r
  | _, _, _ + 1, .nil => .nil
  | _, _, n + 1, .cons _ t => t.drop n
theorem RVs.get : ∀ {xs : List PV} {vs : List V} {i : Nat} {x : PV}, RVs K μ H xs vs → xs[i]? = some x → ∃ v, vs[i]? = some v ∧ RV K μ H x v
  | _, _, _, _, .nil, e => by simp at e
  | _, _, 0, _, .cons r _, e => by simp at e; subst e; exact ⟨_, rfl, r⟩
  | _, _, i + 1, x, .cons _ t, e => by
    obtain ⟨u, h1, h2⟩ := RVs.get (i := i) (x := x) t (by simpa using e)
    exact ⟨u, by simpa using h1, h2⟩
theorem RVs.set {x : PV} {v : V} (r : RV K μ H x v) : ∀ {xs : List PV} {vs : List V} (i : Nat), RVs K μ H xs vs → RVs K μ H (xs.set i x) (vs.set i v)
  | _, _, _, .nil => .nil
  | _, _, 0, .cons _ t => .cons r t
  | _, _, i + 1, .cons q t => .cons q (RVs.set r i t)
theorem RO.mono' (R : RS K cm μ S H) (E : Up μ H μ' H') {a : Addr} {o : PObj} (h : RO K cm μ H a o) (e : H' a = H a) : RO K cm μ' H' a o := by
  cases o with
  | lst xs => obtain ⟨ws, e1, l, r⟩ := h; exact ⟨ws, e.trans e1, l, r.mono' R E⟩
  | dic xs => obtain ⟨ws, e1, l, r⟩ := h; exact ⟨ws, e.trans e1, l, r.mono' R E⟩
  | ins C fs => obtain ⟨Ca, dx, ws, c, e1, l, r⟩ := h; exact ⟨Ca, dx, ws, c, e.trans e1, l, r.mono' R E⟩
  | exn C fs => obtain ⟨cls, oe, d, c, e1, z, hd, q⟩ := h; exact ⟨cls, oe, d, c, e.trans e1, z, hd, q.elim .inl fun ⟨da, fv, q1, q2, q3⟩ => .inr ⟨da, fv, q1, E.kp _ _ q2 (R.notXd q2), q3.mono' R E⟩⟩
  | dicW xs => obtain ⟨ob, ws, e1, l, r⟩ := h; exact ⟨ob, ws, e.trans e1, l, r.mono' R E⟩
  | dicN xs => obtain ⟨ws, e1, n, l, r⟩ := h; exact ⟨ws, e.trans e1, n, l, r.mono' R E⟩
  | dicM xs => obtain ⟨ob, ws, e1, n, l, r⟩ := h; exact ⟨ob, ws, e.trans e1, n, l, r.mono' R E⟩
theorem RO.mono (R : RS K cm μ S H) (E : Ext μ H μ' H') {a : Addr} {o : PObj} (h : RO K cm μ H a o) (e : H' a = H a) : RO K cm μ' H' a o := h.mono' R E.up e
/-! ### the steps of the heap -/
/-- it isn't locked at a -/
def NZ (H : Hp) (a : Addr) : Prop := ∀ ob u, H a ≠ some (.frz ob u)
theorem NZ.of {a : Addr} {o : HO} (e : H a = some o) (h : ∀ ob u, o ≠ .frz ob u) : NZ H a := fun ob u z => by rw [e] at z; cases z; exact h _ _ rfl
theorem NZ.lst {a : Addr} {vs : List V} (e : H a = some (.lst vs)) : NZ H a := .of e fun _ _ => nofun
theorem NZ.dK {a : Addr} {vs : List (Key × V)} (e : H a = some (.dK vs)) : NZ H a := .of e fun _ _ => nofun
theorem NZ.dN {P : Program} {w : World} {a b : Addr} {xs : List (NestedKey × Addr × Value)} (e : H a = some (dN P w b xs)) : NZ H a := .of e fun _ _ => nofun
theorem NZ.ins {a C dx : Addr} {vs : List (Str × V)} (e : H a = some (.ins C dx vs)) : NZ H a := .of e fun _ _ => nofun
theorem Ext.put {i : Nat} {a : Addr} {o : HO} (h : μ[i]? = some a) (nz : NZ H a) : Ext μ H μ (upd H a o) :=
  ⟨fun _ _ h => h, fun _ h => .inl h, fun b u e hb => by rw [upd_ne]; exact e; rintro rfl; exact hb (List.mem_of_getElem? h), fun b u x e => by rw [upd_ne]; exact e; rintro rfl; exact nz _ _ e⟩
theorem RS.put {i : Nat} {a : Addr} {o : HO} {ob : PObj} (R : RS K cm μ S H) (h : μ[i]? = some a) (nz : NZ H a) (r : RO K cm μ (upd H a o) a ob) : RS K cm μ (S.set i ob) (upd H a o) := by
  refine ⟨by simp [R.len], R.nd, fun j b o' hj e => ?_⟩
  by_cases hij : j = i
  · subst hij
    rw [h] at hj; cases hj
    rw [List.getElem?_set_self (by rw [← R.len]; exact (List.getElem?_eq_some_iff.mp h).1)] at e
    cases e
    exact r
  · rw [List.getElem?_set_ne (Ne.symm hij)] at e
    refine (R.ob j b o' hj e).mono R (Ext.put h nz) ?_
    rw [upd_ne]
    rintro rfl
    exact hij (nd_ix R.nd hj h)
end

/-! a list that stands gets a number -/
section
variable {K : PySem.W.Frag} {cm : CM}
end
/-! ### what is wanted behind a step -/
section
variable (K : PySem.W.Frag) (cm : CM)
/-- an exception as it lies: its class, its own dict -/
def RX (μ : List Addr) (H : Hp) (e : PX) (cls : Value) (d : Option Addr) : Prop :=
  cm e.nm cls ∧ ((e.fd = [] ∧ d = none) ∨ ∃ da fv, d = some da ∧ H da = some (.xd fv) ∧ RKs K μ H e.fd fv)
def Post (μ : List Addr) (H : Hp) (r : Res PV) (Q : VK) (W : XK) : Prop := match r with
  | .ok x S => ∀ μ' H' v, Ext μ H μ' H' → RS K cm μ' S H' → RV K μ' H' x v → Q v H'
  | .exc e S => ∀ μ' H' cls d, Ext μ H μ' H' → RS K cm μ' S H' → RX K cm μ' H' e cls d → W cls d H'
  | .bad => False
def PostB (μ : List Addr) (H : Hp) (r : Res Bool) (Q : Bool → Hp → Prop) (W : XK) : Prop := match r with
  | .ok b S => ∀ μ' H', Ext μ H μ' H' → RS K cm μ' S H' → Q b H'
  | .exc e S => ∀ μ' H' cls d, Ext μ H μ' H' → RS K cm μ' S H' → RX K cm μ' H' e cls d → W cls d H'
  | .bad => False
def PostA (μ : List Addr) (H : Hp) (r : Res (List PV)) (Q : List V → Hp → Prop) (W : XK) : Prop := match r with
  | .ok xs S => ∀ μ' H' vs, Ext μ H μ' H' → RS K cm μ' S H' → RVs K μ' H' xs vs → Q vs H'
  | .exc e S => ∀ μ' H' cls d, Ext μ H μ' H' → RS K cm μ' S H' → RX K cm μ' H' e cls d → W cls d H'
  | .bad => False
/-- a list at its address; a new one: nothing stood there (H0) -/
def RL (H0 : Hp) (μ : List Addr) (S : Store) (H : Hp) (l : LL) (a : Addr) : Prop := match l.2 with
  | none => H0 a = none ∧ a ∉ μ ∧ ∃ vs, H a = some (.lst vs) ∧ l.1.length ≤ sizeLine ∧ RVs K μ H l.1 vs
  | some j => μ[j]? = some a ∧ S[j]? = some (.lst l.1)
def PostL (μ : List Addr) (H : Hp) (r : Res LL) (Q : VK) (W : XK) : Prop := match r with
  | .ok l S => ∀ μ' H' a, Ext μ H μ' H' → RS K cm μ' S H' → RL K H μ' S H' l a → Q (.ref a) H'
  | .exc e S => ∀ μ' H' cls d, Ext μ H μ' H' → RS K cm μ' S H' → RX K cm μ' H' e cls d → W cls d H'
  | .bad => False
/-- is the list still as it was -/
def lkOk (l : LL) (S : Store) : Prop := match l.2 with
  | none => True
  | some j => S[j]? = some (.lst l.1)
noncomputable instance (l : LL) (S : Store) : Decidable (lkOk l S) := Classical.propDecidable _
/-- is what is walked still as it was -/
def lkI (l : LI) (S : Store) : Prop := match l.2 with
  | none => True
  | some (.one j xs) => S[j]? = some (.lst xs)
  | some (.two j xs k ys) => S[j]? = some (.lst xs) ∧ S[k]? = some (.lst ys)
  | some (.dic j kvs) => S[j]? = some (.dicW kvs)
  | some (.dicN j kvs) => S[j]? = some (.dicM kvs)
noncomputable instance (l : LI) (S : Store) : Decidable (lkI l S) := Classical.propDecidable _
/-- what is walked -/
structure ItOk (J : It) (μ0 : List Addr) (H0 : Hp) (l : LI) : Prop where
  len : l.1.length ≤ sizeLine
  step : ∀ (i : Nat) (μ : List Addr) (S : Store) (H : Hp), Ext μ0 H0 μ H → RS K cm μ S H → lkI l S → (l.1.length ≤ i → J.stop i H) ∧
    ∀ x, l.1[i]? = some x → J.go i H ∧ ∀ v H', J.yld i H v H' → Ext μ H μ H' ∧ RS K cm μ S H' ∧ RV K μ H' x v
def PostI (μ : List Addr) (H : Hp) (r : Res LI) (R : It → Hp → Prop) (W : XK) : Prop := match r with
  | .ok l S => ∀ μ' H' J, Ext μ H μ' H' → RS K cm μ' S H' → ItOk K cm J μ' H' l → R J H'
  | .exc e S => ∀ μ' H' cls d, Ext μ H μ' H' → RS K cm μ' S H' → RX K cm μ' H' e cls d → W cls d H'
  | .bad => False
def PostS (μ : List Addr) (H : Hp) (r : SR) (D : Ends) (W : WX) : Prop := match r with
  | .nx ρ S => ∀ μ' H' σ, Ext μ H μ' H' → RS K cm μ' S H' → RE K μ' H' ρ σ → D.nx σ H'
  | .brk ρ S => ∀ μ' H' σ, Ext μ H μ' H' → RS K cm μ' S H' → RE K μ' H' ρ σ → D.bk σ H'
  | .cnt ρ S => ∀ μ' H' σ, Ext μ H μ' H' → RS K cm μ' S H' → RE K μ' H' ρ σ → D.ct σ H'
  | .ret x S => ∀ μ' H' v, Ext μ H μ' H' → RS K cm μ' S H' → RV K μ' H' x v → D.rt v H'
  | .exc e ρ S => ∀ μ' H' σ cls d, Ext μ H μ' H' → RS K cm μ' S H' → RE K μ' H' ρ σ → RX K cm μ' H' e cls d → W cls d σ H'
  | .bad => False
end
end
/-! Fw2: expressions. -/
section
/-! ### weakening -/
section
variable {X : Cx}
theorem PE.imp {e : Expr} {t t' : TE} (h : PE X e t) (w : ∀ σ H Q, t' σ H Q → t σ H Q) : PE X e t' := ⟨fun pins s σ H Q I q => h.run pins s σ H Q I (w σ H Q q)⟩
theorem PT.imp {e : Expr} {t t' : TT} (h : PT X e t) (w : ∀ σ H Q, t' σ H Q → t σ H Q) : PT X e t' := ⟨fun pins s σ H Q I q => h.run pins s σ H Q I (w σ H Q q)⟩
theorem PW.imp {e : Expr} {t t' : TT} (h : PW X e t) (w : ∀ σ H Q, t' σ H Q → t σ H Q) : PW X e t' := ⟨fun wh pins s σ H Q I q => h.run wh pins s σ H Q I (w σ H Q q)⟩
theorem PA.imp {es : List Expr} {t t' : TA} (h : PA X es t) (w : ∀ σ H Q, t' σ H Q → t σ H Q) : PA X es t' := ⟨fun pos pins s σ H Q I q => h.run pos pins s σ H Q I (w σ H Q q)⟩
theorem PI.imp {tg e : Expr} {t t' : TI} (h : PI X tg e t) (w : ∀ σ H Q, t' σ H Q → t σ H Q) : PI X tg e t' := ⟨fun pins s σ H Q I q => h.run pins s σ H Q I (w σ H Q q)⟩
theorem PS.imp {st : Stmt} {t t' : TS} (h : PS X st t) (w : ∀ D σ H, t' D σ H → t D σ H) : PS X st t' := ⟨fun pins s σ H D I q => h.run pins s σ H D I (w D σ H q)⟩
theorem PSs.imp {st : List Stmt} {t t' : TS} (h : PSs X st t) (w : ∀ D σ H, t' D σ H → t D σ H) : PSs X st t' := ⟨fun pins s σ H D I q => h.run pins s σ H D I (w D σ H q)⟩
theorem PE.or {e : Expr} {t t' : TE} (h : PE X e t) (h' : PE X e t') : PE X e (fun σ H Q => t σ H Q ∨ t' σ H Q) :=
  ⟨fun pins s σ H Q I q => q.elim (h.run pins s σ H Q I) (h'.run pins s σ H Q I)⟩
end
section
variable {K : PySem.W.Frag} {cm : CM} {μ μ' μ1 μ2 : List Addr} {H H' H1 H2 : Hp} {S S' : Store} {ρ : Env'} {σ : L2.St} {W W' : XK}
theorem Post.ext (E : Ext μ H μ1 H1) {r : Res PV} {Q : VK} (h : Post K cm μ H r Q W) : Post K cm μ1 H1 r Q W := by
  cases r with
  | ok x S => exact fun μ' H' v e r q => h μ' H' v (E.trans e) r q
  | exc x S => exact fun μ' H' c d e r q => h μ' H' c d (E.trans e) r q
  | bad => exact h
theorem PostB.ext (E : Ext μ H μ1 H1) {r : Res Bool} {Q : Bool → Hp → Prop} (h : PostB K cm μ H r Q W) : PostB K cm μ1 H1 r Q W := by
  cases r with
  | ok x S => exact fun μ' H' e r => h μ' H' (E.trans e) r
  | exc x S => exact fun μ' H' c d e r q => h μ' H' c d (E.trans e) r q
  | bad => exact h
theorem PostA.ext (E : Ext μ H μ1 H1) {r : Res (List PV)} {Q : List V → Hp → Prop} (h : PostA K cm μ H r Q W) : PostA K cm μ1 H1 r Q W := by
  cases r with
  | ok x S => exact fun μ' H' v e r q => h μ' H' v (E.trans e) r q
  | exc x S => exact fun μ' H' c d e r q => h μ' H' c d (E.trans e) r q
  | bad => exact h
theorem RL.back (E : Ext μ H μ1 H1) (e : Ext μ1 H1 μ2 H2) {l : LL} {a : Addr} (h : RL K H1 μ2 S H2 l a) : RL K H μ2 S H2 l a := by
  unfold RL at h ⊢
  split at h
  · obtain ⟨h0, hm, q⟩ := h
    refine ⟨?_, hm, q⟩
    cases he : H a with
    | none => rfl
    | some o =>
      by_cases ha : a ∈ μ
      · obtain ⟨i, hi⟩ := List.mem_iff_getElem?.mp ha
        exact absurd (List.mem_of_getElem? (e.pre i a (E.pre i a hi))) hm
      · rw [E.kp a o he ha] at h0; cases h0
  · exact h
theorem PostL.ext (E : Ext μ H μ1 H1) {r : Res LL} {Q : VK} (h : PostL K cm μ H r Q W) : PostL K cm μ1 H1 r Q W := by
  cases r with
  | ok x S => exact fun μ' H' v e r q => h μ' H' v (E.trans e) r (q.back E e)
  | exc x S => exact fun μ' H' c d e r q => h μ' H' c d (E.trans e) r q
  | bad => exact h
theorem PostI.ext (E : Ext μ H μ1 H1) {r : Res LI} {Q : It → Hp → Prop} (h : PostI K cm μ H r Q W) : PostI K cm μ1 H1 r Q W := by
  cases r with
  | ok x S => exact fun μ' H' v e r q => h μ' H' v (E.trans e) r q
  | exc x S => exact fun μ' H' c d e r q => h μ' H' c d (E.trans e) r q
  | bad => exact h
theorem PostS.ext (E : Ext μ H μ1 H1) {r : SR} {D : Ends} {W : WX} (h : PostS K cm μ H r D W) : PostS K cm μ1 H1 r D W := by
  cases r with
  | nx ρ S => exact fun μ' H' σ e r q => h μ' H' σ (E.trans e) r q
  | brk ρ S => exact fun μ' H' σ e r q => h μ' H' σ (E.trans e) r q
  | cnt ρ S => exact fun μ' H' σ e r q => h μ' H' σ (E.trans e) r q
  | ret x S => exact fun μ' H' v e r q => h μ' H' v (E.trans e) r q
  | exc x ρ S => exact fun μ' H' σ c d e r q z => h μ' H' σ c d (E.trans e) r q z
  | bad => exact h
theorem Post.mono {r : Res PV} {Q Q' : VK} (h : Post K cm μ H r Q W) (w : ∀ v H', Q v H' → Q' v H') : Post K cm μ H r Q' W := by
  cases r with
  | ok x S => exact fun μ' H' v e r q => w _ _ (h μ' H' v e r q)
  | exc x S => exact h
  | bad => exact h
theorem PostB.mono {r : Res Bool} {Q Q' : Bool → Hp → Prop} (h : PostB K cm μ H r Q W) (w : ∀ v H', Q v H' → Q' v H') : PostB K cm μ H r Q' W := by
  cases r with
  | ok x S => exact fun μ' H' e r => w _ _ (h μ' H' e r)
  | exc x S => exact h
  | bad => exact h
/-! ### one step behind another -/
/-- behind a value: the state in which f goes on -/
theorem Post.step {α : Type} {r : Res PV} {f : PV → Store → Res α} {P : List Addr → Hp → Res α → Prop} {Q : VK}
    (h : P μ H (r.bind f)) (hexc : ∀ e S, P μ H (.exc e S) → Post K cm μ H (.exc e S) Q W) (hbad : P μ H .bad → False)
    (hok : ∀ x S μ' H' v, Ext μ H μ' H' → RS K cm μ' S H' → RV K μ' H' x v → P μ H (f x S) → Q v H') : Post K cm μ H r Q W := by
  cases r with
  | ok x S => exact fun μ' H' v e r q => hok x S μ' H' v e r q h
  | exc e S => exact hexc e S h
  | bad => exact hbad h
theorem PostB.step {α : Type} {r : Res Bool} {f : Bool → Store → Res α} {P : List Addr → Hp → Res α → Prop} {Q : Bool → Hp → Prop}
    (h : P μ H (r.bind f)) (hexc : ∀ e S, P μ H (.exc e S) → PostB K cm μ H (.exc e S) Q W) (hbad : P μ H .bad → False)
    (hok : ∀ x S μ' H', Ext μ H μ' H' → RS K cm μ' S H' → P μ H (f x S) → Q x H') : PostB K cm μ H r Q W := by
  cases r with
  | ok x S => exact fun μ' H' e r => hok x S μ' H' e r h
  | exc e S => exact hexc e S h
  | bad => exact hbad h
theorem PostA.step {α : Type} {r : Res (List PV)} {f : List PV → Store → Res α} {P : List Addr → Hp → Res α → Prop} {Q : List V → Hp → Prop}
    (h : P μ H (r.bind f)) (hexc : ∀ e S, P μ H (.exc e S) → PostA K cm μ H (.exc e S) Q W) (hbad : P μ H .bad → False)
    (hok : ∀ x S μ' H' v, Ext μ H μ' H' → RS K cm μ' S H' → RVs K μ' H' x v → P μ H (f x S) → Q v H') : PostA K cm μ H r Q W := by
  cases r with
  | ok x S => exact fun μ' H' v e r q => hok x S μ' H' v e r q h
  | exc e S => exact hexc e S h
  | bad => exact hbad h
theorem PostL.step {α : Type} {r : Res LL} {f : LL → Store → Res α} {P : List Addr → Hp → Res α → Prop} {Q : VK}
    (h : P μ H (r.bind f)) (hexc : ∀ e S, P μ H (.exc e S) → PostL K cm μ H (.exc e S) Q W) (hbad : P μ H .bad → False)
    (hok : ∀ x S μ' H' a, Ext μ H μ' H' → RS K cm μ' S H' → RL K H μ' S H' x a → P μ H (f x S) → Q (.ref a) H') : PostL K cm μ H r Q W := by
  cases r with
  | ok x S => exact fun μ' H' v e r q => hok x S μ' H' v e r q h
  | exc e S => exact hexc e S h
  | bad => exact hbad h
end

/-! ### the words of an expression -/
section
variable {X : Cx} {W : WX}
def ofO (o : Option PV) (S : Store) : Res PV := match o with
  | some x => .ok x S
  | none => .bad
def ofB (o : Option Bool) (S : Store) : Res Bool := match o with
  | some x => .ok x S
  | none => .bad
@[simp] theorem ofO_some (x : PV) (S : Store) : ofO (some x) S = .ok x S := rfl
@[simp] theorem ofO_none (S : Store) : ofO none S = .bad := rfl
@[simp] theorem ofB_some (x : Bool) (S : Store) : ofB (some x) S = .ok x S := rfl
@[simp] theorem ofB_none (S : Store) : ofB none S = .bad := rfl
def vVar (i : Nat) : TV := fun ρ S => match ρ[i]? with
  | some (some x) => .ok x S
  | _ => .bad
def vC (x : PV) : TV := fun _ S => .ok x S
def vStr (x : Str) : TV := fun _ S => if SOk x then .ok (.str x) S else .bad
/-- two values, then an operation on them that changes nothing -/
def vBin (f : PV → PV → Store → Option PV) (a b : TV) : TV := fun ρ S => (a ρ S).bind fun x S => (b ρ S).bind fun y S => ofO (f x y S) S
def vUn (f : PV → Store → Option PV) (a : TV) : TV := fun ρ S => (a ρ S).bind fun x S => ofO (f x S) S
variable {a b c : Expr} {ea eb ec : TV} {pos : Pos}
/-! ### truth -/
def truth : PV → Store → Option Bool
  | .non, _ => some false
  | .bl b, _ => some b
  | .int i, _ => some (i != 0)
  | .str y, _ => some ((y.length : Int) != 0)
  | .tup xs, _ => some (!xs.isEmpty)
  | .frl xs, _ => some (!xs.isEmpty)
  | .ref i, S => match S[i]? with
    | some (.lst xs) => some (!xs.isEmpty)
    | some (.dic kvs) => some (!kvs.isEmpty)
    | _ => none
/-- a value as a test -/
def bV (e : TV) : TB := fun ρ S => (e ρ S).bind fun x S => ofB (truth x S) S
def bBl (e : TV) : TB := fun ρ S => (e ρ S).bind fun x S => match x with
  | .bl b => .ok b S
  | _ => .bad
theorem RKs.length {K : PySem.W.Frag} {μ : List Addr} {H : Hp} {κ : Type} {xs : List (κ × PV)} {vs : List (κ × V)} (h : RKs K μ H xs vs) : xs.length = vs.length := Paired.length h
/-! ### and, or, not, if -/
def bAnd (a b : TB) : TB := fun ρ S => (a ρ S).bind fun x S => if x = true then b ρ S else .ok false S
def bOr (a b : TB) : TB := fun ρ S => (a ρ S).bind fun x S => if x = true then .ok true S else b ρ S
def bNot (a : TB) : TB := fun ρ S => (a ρ S).bind fun x S => .ok (!x) S
def vAnd (a b : TV) : TV := fun ρ S => (a ρ S).bind fun x S => match x with
  | .bl true => b ρ S
  | .bl false => .ok (.bl false) S
  | _ => .bad
def vOr (a b : TV) : TV := fun ρ S => (a ρ S).bind fun x S => match x with
  | .bl false => b ρ S
  | .bl true => .ok (.bl true) S
  | _ => .bad
variable {ta tb : TB} {rest : List Expr}
/-! ### lists of values; tuples and lists written out -/
def vsNil : TVs := fun _ S => .ok [] S
def vsCons (a : TV) (r : TVs) : TVs := fun ρ S => (a ρ S).bind fun x S => (r ρ S).bind fun xs S => .ok (x :: xs) S
def vTup (es : TVs) : TV := fun ρ S => (es ρ S).bind fun xs S => if xs.length ≤ sizeLine then .ok (.tup xs) S else .bad
def lDisp (es : TVs) : TL := fun ρ S => (es ρ S).bind fun xs S => if xs.length ≤ sizeLine then .ok (xs, none) S else .bad
/-- a new list becomes a thing of the store -/
def vNew (l : TL) : TV := fun ρ S => (l ρ S).bind fun l S => match l.2 with
  | none => .ok (.ref S.length) (S ++ [.lst l.1])
  | some j => .ok (.ref j) S
variable {es : List Expr} {evs : TVs} {el : TL}
end
end
/-! Fw3: operations on values, subscripts, slices. -/
section
/-! ### data: equality -/
mutual
def PV.eqv : PV → PV → Bool
  | .non, .non => true
  | .bl a, .bl b => a == b
  | .bl a, .int j => (if a then 1 else 0) == j
  | .int i, .bl b => i == (if b then 1 else 0)
  | .int i, .int j => i == j
  | .str x, .str y => x == y
  | .tup xs, .tup ys => PV.eqvs xs ys
  | .frl xs, .frl ys => PV.eqvs xs ys
  | _, _ => false
def PV.eqvs : List PV → List PV → Bool
  | [], [] => true
  | x :: xs, y :: ys => PV.eqv x y && PV.eqvs xs ys
  | _, _ => false
end
/-! no thing of the store in it -/
mutual
def PV.dat : PV → Bool
  | .ref _ => false
  | .tup xs => PV.dats xs
  | .frl xs => PV.dats xs
  | _ => true
def PV.dats : List PV → Bool
  | [] => true
  | x :: xs => PV.dat x && PV.dats xs
end
mutual
def PV.dep : PV → Nat
  | .tup xs => PV.deps xs + 1
  | .frl xs => PV.deps xs + 1
  | _ => 0
def PV.deps : List PV → Nat
  | [] => 0
  | x :: xs => max (PV.dep x) (PV.deps xs)
end
mutual
def PV.pd : PV → PyData
  | .non => .none
  | .bl b => .bool b
  | .int i => .int i
  | .str x => .str x
  | .tup xs => .tuple (PV.pds xs)
  | .frl xs => .list (PV.pds xs)
  | .ref _ => .none
def PV.pds : List PV → List PyData
  | [] => []
  | x :: xs => PV.pd x :: PV.pds xs
end
/-- a list that is read: its items -/
def deref (S : Store) (x : PV) : PV := match x with
  | .ref i => match S[i]? with
    | some (.lst xs) => .frl xs
    | _ => .ref i
  | x => x
/-- how deep data may be that are compared -/
def deepest : Nat := 190
section
variable {K : PySem.W.Frag} {cm : CM} {μ : List Addr} {H : Hp} {S : Store}
mutual
theorem RV.dp : ∀ {x : PV} {v : V}, RV K μ H x v → x.dat = true → Dp K H v x.pd ∧ x.pd.canLay0 = true
  | _, _, .non, _ => ⟨.non, rfl⟩
  | _, _, .bl b, _ => ⟨.bl b, rfl⟩
  | _, _, .int i, _ => ⟨.int i, rfl⟩
  | _, _, .str x h, _ => ⟨.str x, h.2⟩
  | _, _, .tup s l r, d => ⟨.tup s.sq (RVs.dp r d).1, (RVs.dp r d).2⟩
  | _, _, .frl s l r, d => ⟨.lst s.sq (RVs.dp r d).1, (RVs.dp r d).2⟩
  | _, _, .ref _, d => absurd (show false = true from d) (by decide)
theorem RVs.dp : ∀ {xs : List PV} {vs : List V}, RVs K μ H xs vs → PV.dats xs = true → DpAll K H vs (PV.pds xs) ∧ PyData.canLayAll0 (PV.pds xs) = true
  | _, _, .nil, _ => ⟨.nil, rfl⟩
  | _, _, .cons h t, d => by
    simp only [PV.dats, Bool.and_eq_true] at d
    obtain ⟨a, b⟩ := RV.dp h d.1
    obtain ⟨c, e⟩ := RVs.dp t d.2
    exact ⟨.cons a c, by simp only [PV.pds, PyData.canLayAll0, b, e, Bool.and_self]⟩
end
end
/-! ### operations -/
def oAdd (x y : PV) (_ : Store) : Option PV := match x, y with
  | .int a, .int b => some (.int (a + b))
  | .str a, .str b => if a.length + b.length ≤ sizeLine then some (.str (a ++ b)) else none
  | .tup a, .tup b => if a.length + b.length ≤ sizeLine then some (.tup (a ++ b)) else none
  | _, _ => none
def oSub (x y : PV) (_ : Store) : Option PV := match x, y with
  | .int a, .int b => some (.int (a - b))
  | _, _ => none
def oMul (x y : PV) (_ : Store) : Option PV := match x, y with
  | .int a, .int b => if (-(2 ^ 64) < a ∧ a < 2 ^ 64) ∨ (-(2 ^ 64) < b ∧ b < 2 ^ 64) then some (.int (a * b)) else none
  | _, _ => none
def oDiv (x y : PV) (_ : Store) : Option PV := match x, y with
  | .int a, .int b => if 0 < b ∧ b < 1073741824 then some (.int (a / b)) else none
  | _, _ => none
def oMod (x y : PV) (_ : Store) : Option PV := match x, y with
  | .int a, .int b => if 0 < b then some (.int (a % b)) else none
  | _, _ => none
def oPow (x y : PV) (_ : Store) : Option PV := match x, y with
  | .int a, .int b => if 0 ≤ b ∧ b ≤ 1000000 ∧ a.natAbs < 2 ^ 64 then some (.int (a ^ b.toNat)) else none
  | _, _ => none
def oNeg (x : PV) (_ : Store) : Option PV := match x with
  | .int a => some (.int (-a))
  | _ => none
def oLt (x y : PV) (_ : Store) : Option PV := match x, y with
  | .int a, .int b => some (.bl (decide (a < b)))
  | .str a, .str b => some (.bl (decide (a.cps.toList < b.cps.toList)))
  | _, _ => none
def oGt (x y : PV) (_ : Store) : Option PV := match x, y with
  | .int a, .int b => some (.bl (decide (b < a)))
  | _, _ => none
def oGe (x y : PV) (_ : Store) : Option PV := match x, y with
  | .int a, .int b => some (.bl (decide (b ≤ a)))
  | _, _ => none
/-- with nothing: whatever stands in the other one -/
def emptyEq (x y : PV) : Option Bool := match x, y with
  | .tup xs, .tup ys => if xs.isEmpty || ys.isEmpty then some (xs.length == ys.length) else none
  | .frl xs, .frl ys => if xs.isEmpty || ys.isEmpty then some (xs.length == ys.length) else none
  | _, _ => none
def eqS (S : Store) (x y : PV) : Option Bool :=
  if (deref S x).dat = true ∧ (deref S y).dat = true ∧ (deref S x).dep ≤ deepest then some (PV.eqv (deref S x) (deref S y)) else emptyEq (deref S x) (deref S y)
def oEq (x y : PV) (S : Store) : Option PV := (eqS S x y).map .bl
def oNe (x y : PV) (S : Store) : Option PV := (eqS S x y).map fun b => .bl (!b)
def inStr (a b : Str) : Bool := !(Builtin.Str.occurrences b a 0 b.length 1).isEmpty
def inS (S : Store) (x y : PV) : Option Bool := match deref S y with
  | .frl ys => if (deref S x).dat = true ∧ PV.dats ys = true ∧ PV.deps ys ≤ deepest then some (ys.any fun z => PV.eqv z (deref S x)) else none
  | .tup ys => if (deref S x).dat = true ∧ PV.dats ys = true ∧ PV.deps ys ≤ deepest then some (ys.any fun z => PV.eqv z (deref S x)) else none
  | .str b => match x with
    | .str a => some (inStr a b)
    | _ => none
  | _ => none
def oIn (x y : PV) (S : Store) : Option PV := (inS S x y).map .bl
def oNotIn (x y : PV) (S : Store) : Option PV := (inS S x y).map fun b => .bl (!b)
def PV.isNon : PV → Bool
  | .non => true
  | _ => false
def oIs (x y : PV) (_ : Store) : Option PV := if y.isNon = true then some (.bl x.isNon) else none
def oIsNot (x y : PV) (_ : Store) : Option PV := if y.isNon = true then some (.bl (!x.isNon)) else none

section
variable {X : Cx} {W : WX}
end
end
/-! Fw4: subscripts, slices, calls of built-in functions, methods of texts. -/
section
/-! ### subscripts -/
def oIdx (x i : PV) (S : Store) : Option PV := match deref S x, i with
  | .tup xs, .int k => atI xs k
  | .frl xs, .int k => atI xs k
  | .str z, .int k => (atI z.cps.toList k).map fun c => .str ⟨#[c]⟩
  | _, _ => none
theorem RVs.at {K : PySem.W.Frag} {μ : List Addr} {H : Hp} {xs : List PV} {vs : List V} {k : Int} {z : PV} (r : RVs K μ H xs vs) (h : atI xs k = some z) : ∃ v, atI vs k = some v ∧ RV K μ H z v := by
  unfold atI at h ⊢
  rw [← r.length]
  cases e : ixN xs.length k with
  | none => rw [e] at h; cases h
  | some j => rw [e] at h; exact r.get h
section
variable {X : Cx} {W : WX} {a b : Expr} {ea eb : TV} {pos : Pos}
/-! ### slices -/
abbrev TOv := Env' → Store → Res (Option Int)
def PostO (K : PySem.W.Frag) (cm : CM) (μ : List Addr) (H : Hp) (r : Res (Option Int)) (Q : Option Int → Hp → Prop) (W : XK) : Prop := match r with
  | .ok x S => ∀ μ' H', Ext μ H μ' H' → RS K cm μ' S H' → Q x H'
  | .exc e S => ∀ μ' H' cls d, Ext μ H μ' H' → RS K cm μ' S H' → RX K cm μ' H' e cls d → W cls d H'
  | .bad => False
theorem PostO.ext {K : PySem.W.Frag} {cm : CM} {μ μ1 : List Addr} {H H1 : Hp} {W : XK} (E : Ext μ H μ1 H1) {r : Res (Option Int)} {Q : Option Int → Hp → Prop} (h : PostO K cm μ H r Q W) : PostO K cm μ1 H1 r Q W := by
  cases r with
  | ok x S => exact fun μ' H' e r => h μ' H' (E.trans e) r
  | exc x S => exact fun μ' H' c d e r q => h μ' H' c d (E.trans e) r q
  | bad => exact h
theorem PostO.step {K : PySem.W.Frag} {cm : CM} {μ : List Addr} {H : Hp} {W : XK} {α : Type} {r : Res (Option Int)} {f : Option Int → Store → Res α} {P : List Addr → Hp → Res α → Prop} {Q : Option Int → Hp → Prop}
    (h : P μ H (r.bind f)) (hexc : ∀ e S, P μ H (.exc e S) → PostO K cm μ H (.exc e S) Q W) (hbad : P μ H .bad → False)
    (hok : ∀ x S μ' H', Ext μ H μ' H' → RS K cm μ' S H' → P μ H (f x S) → Q x H') : PostO K cm μ H r Q W := by
  cases r with
  | ok x S => exact fun μ' H' e r => hok x S μ' H' e r h
  | exc e S => exact hexc e S h
  | bad => exact hbad h
def oNone : TOv := fun _ S => .ok none S
def oSome (e : TV) : TOv := fun ρ S => (e ρ S).bind fun x S => match x with
  | .int i => .ok (some i) S
  | _ => .bad
def cutL {α : Type} (xs : List α) (lo hi : Option Int) : List α := (xs.drop (HT.sIx xs.length 0 lo)).take (HT.sIx xs.length xs.length hi - HT.sIx xs.length 0 lo)
def strCut (z : Str) (lo hi : Option Int) : Str := ⟨(cutL z.cps.toList lo hi).toArray⟩
/-- a[lo:hi]: a new list gets a number -/
def vSlc (a : TV) (lo hi : TOv) : TV := fun ρ S => (a ρ S).bind fun x S => (lo ρ S).bind fun l S => (hi ρ S).bind fun h S => match deref S x with
  | .tup xs => .ok (.tup (cutL xs l h)) S
  | .str z => .ok (.str (strCut z l h)) S
  | .frl xs => .ok (.ref S.length) (S ++ [.lst (cutL xs l h)])
  | _ => .bad
def lSlc (a : TV) (lo hi : TOv) : TL := fun ρ S => (a ρ S).bind fun x S => (lo ρ S).bind fun l S => (hi ρ S).bind fun h S => match deref S x with
  | .frl xs => .ok (cutL xs l h, none) S
  | _ => .bad
variable {lo hi : Option Expr} {el eh : TOv} {p2 : Pos}
/-! ### calls of built-in functions -/
def vCall (f : List PV → Store → Option PV) (es : TVs) : TV := fun ρ S => (es ρ S).bind fun xs S => ofO (f xs S) S
def vCallL (f : List PV → Option PV) (l : TL) : TV := fun ρ S => (l ρ S).bind fun l S => ofO (f l.1) S
def lCallN (f : List PV → Store → Option (List PV)) (es : TVs) : TL := fun ρ S => (es ρ S).bind fun xs S => match f xs S with
  | some zs => .ok (zs, none) S
  | none => .bad
/-- the list that stands -/
theorem RL.lst {K : PySem.W.Frag} {cm : CM} {μ : List Addr} {S : Store} {H0 H : Hp} {l : LL} {a : Addr} (R : RS K cm μ S H) (h : RL K H0 μ S H l a) : ∃ vs, H a = some (.lst vs) ∧ l.1.length ≤ sizeLine ∧ RVs K μ H l.1 vs := by
  unfold RL at h
  split at h
  · exact h.2.2
  · obtain ⟨h1, h2⟩ := h
    exact R.ob _ a _ h1 h2
variable {x : Str} {p : Pos} {e : Expr} {es : List Expr} {evs : TVs} {ell : TL} {id T : String}
/-! ### which function -/
def fLen (xs : List PV) (S : Store) : Option PV := match xs with
  | [x] => match deref S x with
    | .frl ys => some (.int ys.length)
    | .tup ys => some (.int ys.length)
    | .str z => some (.int z.length)
    | _ => none
  | _ => none
theorem RVs.one {K : PySem.W.Frag} {μ : List Addr} {H : Hp} {x : PV} {vs : List V} (r : RVs K μ H [x] vs) : ∃ v, vs = [v] ∧ RV K μ H x v := by
  cases r with | cons h t => cases t; exact ⟨_, rfl, h⟩
theorem RVs.two {K : PySem.W.Frag} {μ : List Addr} {H : Hp} {x y : PV} {vs : List V} (r : RVs K μ H [x, y] vs) : ∃ v w, vs = [v, w] ∧ RV K μ H x v ∧ RV K μ H y w := by
  cases r with | cons h t => cases t with | cons h2 t => cases t; exact ⟨_, _, rfl, h, h2⟩
def fInt (xs : List PV) (_ : Store) : Option PV := match xs with
  | [.int i] => some (.int i)
  | [.bl b] => some (.int (if b then 1 else 0))
  | _ => none
/-- tuple(x) of a list or a tuple -/
def fTup (xs : List PV) (S : Store) : Option PV := match xs with
  | [x] => match deref S x with
    | .frl ys => some (.tup ys)
    | .tup ys => some (.tup ys)
    | _ => none
  | _ => none
def asBl : List PV → Option (List Bool)
  | [] => some []
  | .bl b :: r => (asBl r).map (b :: ·)
  | _ :: _ => none
def fAll (xs : List PV) : Option PV := (asBl xs).map fun bs => .bl (bs.all _root_.id)
def fAny (xs : List PV) : Option PV := (asBl xs).map fun bs => .bl (bs.any _root_.id)
/-! ### isinstance of a built-in type -/
def tyN (S : Store) : PV → Option String
  | .non => some "NoneType"
  | .bl _ => some "bool"
  | .int _ => some "int"
  | .str _ => some "str"
  | .tup _ => some "tuple"
  | .frl _ => some "list"
  | .ref i => match S[i]? with
    | some (.lst _) => some "list"
    | some (.dic _) => some "dict"
    | _ => none
def isI (a b : String) : Bool := a == b || (a == "bool" && b == "int")
def vIsi (T : String) (a : TV) : TV := fun ρ S => (a ρ S).bind fun x S => ofO ((tyN S x).map fun t => .bl (isI t T)) S
end
end
/-! Fw5: statements, loops, comprehensions. -/
section
/-! ### statements -/
def Res.sr {α : Type} (r : Res α) (ρ : Env') (f : α → Store → SR) : SR := match r with
  | .ok a S => f a S
  | .exc e S => .exc e ρ S
  | .bad => .bad
@[simp] theorem sr_ok {α : Type} (a : α) (S : Store) (ρ : Env') (f : α → Store → SR) : (Res.ok a S).sr ρ f = f a S := rfl
@[simp] theorem sr_exc {α : Type} (e : PX) (S : Store) (ρ : Env') (f : α → Store → SR) : (Res.exc e S : Res α).sr ρ f = .exc e ρ S := rfl
@[simp] theorem sr_bad {α : Type} (ρ : Env') (f : α → Store → SR) : (Res.bad : Res α).sr ρ f = .bad := rfl
def sNil : TSt := fun ρ S => .nx ρ S
def SR.seq (r : SR) (b : TSt) : SR := match r with
  | .nx ρ S => b ρ S
  | r => r
def sSeq (a b : TSt) : TSt := fun ρ S => (a ρ S).seq b
def sExpr (e : TV) : TSt := fun ρ S => (e ρ S).sr ρ fun _ S => .nx ρ S
def sSet (i : Nat) (e : TV) : TSt := fun ρ S => (e ρ S).sr ρ fun x S => .nx (ρ.set i (some x)) S
def sRet (e : TV) : TSt := fun ρ S => (e ρ S).sr ρ fun x S => .ret x S
def sIf (c : TB) (a b : TSt) : TSt := fun ρ S => (c ρ S).sr ρ fun x S => if x = true then a ρ S else b ρ S
/-! ### targets -/
abbrev Tgt := PV → Env' → Option Env'
def tgN (i : Nat) : Tgt := fun x ρ => some (ρ.set i (some x))
def tgNil : List PV → Env' → Option Env' := fun xs ρ => match xs with
  | [] => some ρ
  | _ => none
def tgCons (t : Tgt) (r : List PV → Env' → Option Env') : List PV → Env' → Option Env' := fun xs ρ => match xs with
  | x :: ys => (t x ρ).bind (r ys)
  | [] => none
def tgT (r : List PV → Env' → Option Env') : Tgt := fun x ρ => match x with
  | .tup xs => r xs ρ
  | _ => none
theorem RE.set {K : PySem.W.Frag} {μ : List Addr} {H : Hp} {ρ : Env'} {σ : L2.St} {x : PV} {v : V} (E : RE K μ H ρ σ) (r : RV K μ H x v) (i : Nat) : RE K μ H (ρ.set i (some x)) (σ.set i (some v)) := by
  refine ⟨by simp [E.1], fun j y e => ?_⟩
  by_cases h : i = j
  · subst h
    have hl : i < ρ.length := by
      have := (List.getElem?_eq_some_iff.mp e).1
      simpa using this
    rw [List.getElem?_set_self hl] at e
    cases e
    exact ⟨v, List.getElem?_set_self (by rw [← E.1]; exact hl), r⟩
  · rw [List.getElem?_set_ne h] at e
    obtain ⟨w, e1, r1⟩ := E.2 j y e
    exact ⟨w, by rw [List.getElem?_set_ne h]; exact e1, r1⟩
section
variable {X : Cx} {W : WX} {e : Expr} {st : Stmt} {rest : List Stmt} {ev : TV} {a b : TSt} {pos pos' : Pos}
/-! ### plain statements -/
/-! ### o[i] = v -/
def keyOf : PV → Option Key
  | .int i => some (.inl i)
  | .str x => some (.inr x)
  | _ => none
def putP (kvs : List (Key × PV)) (k : Key) (v : PV) : List (Key × PV) :=
  if (kvs.any fun kv => decide (kv.1 = k)) = true then kvs.map (fun kv => if kv.1 = k then (kv.1, v) else kv) else kvs ++ [(k, v)]
def storeAt (o i v : PV) (S : Store) : Option Store := match o with
  | .ref j => match S[j]?, i with
    | some (.lst xs), .int k => (ixN xs.length k).map fun n => S.set j (.lst (xs.set n v))
    | some (.dic kvs), .int k => if kvs.length < sizeLine then some (S.set j (.dic (putP kvs (.inl k) v))) else none
    | some (.dic kvs), .str k => if kvs.length < sizeLine then some (S.set j (.dic (putP kvs (.inr k) v))) else none
    | _, _ => none
  | _ => none
def sSub (o i v : TV) : TSt := fun ρ S => (v ρ S).sr ρ fun y S => (o ρ S).sr ρ fun x S => (i ρ S).sr ρ fun k S => match storeAt x k y S with
  | some S' => .nx ρ S'
  | none => .bad
theorem RKs.putP {K : PySem.W.Frag} {μ : List Addr} {H : Hp} {kvs : List (Key × PV)} {vs : List (Key × V)} (r : RKs K μ H kvs vs) (k : Key) {y : PV} {v : V} (ry : RV K μ H y v) : RKs K μ H (putP kvs k y) (putK vs k v) := by
  have hany : (kvs.any fun kv => decide (kv.1 = k)) = vs.any fun kv => decide (kv.1 = k) := by
    induction r with
    | nil => rfl
    | cons h t ih => rw [List.any_cons, List.any_cons, ih, h.1]
  unfold Ev.putP putK
  rw [hany]
  split
  · clear hany
    rename_i h; clear h
    induction r with
    | nil => exact .nil
    | @cons p q _ _ h t ih =>
      rw [List.map_cons, List.map_cons]
      refine .cons ?_ ih
      by_cases e : p.1 = k
      · rw [if_pos e, if_pos (h.1 ▸ e)]; exact ⟨h.1, ry⟩
      · rw [if_neg e, if_neg (h.1 ▸ e)]; exact h
  · clear hany
    rename_i h; clear h
    induction r with
    | nil => exact .cons ⟨rfl, ry⟩ .nil
    | cons h t ih => exact .cons h ih
/-! ### name op= e -/
end
end
/-! Fw6: what is walked; for, while, comprehensions. -/
section
/-! ### what is walked -/
section
variable {X : Cx} {W : WX} {e : Expr} {ev : TV} {el : TL} {it : TIt} {pos : Pos} {tg : Expr}
/-- the items of a list or a tuple, of a text sign by sign; a list of the store is told with its number -/
def itemsOf (x : PV) (S : Store) : Option LI := match x with
  | .tup xs => some (xs, none)
  | .frl xs => some (xs, none)
  | .str z => some (z.cps.toList.map fun c => .str ⟨#[c]⟩, none)
  | .ref i => match S[i]? with
    | some (.lst xs) => some (xs, some (.one i xs))
    | _ => none
  | _ => none
/-- a list as what is walked -/
def toI (l : LL) : LI := (l.1, l.2.map fun j => .one j l.1)
def iL (l : TL) : TIt := fun ρ S => (l ρ S).bind fun l S => .ok (toI l) S
def iV (e : TV) : TIt := fun ρ S => (e ρ S).bind fun x S => match itemsOf x S with
  | some l => .ok l S
  | none => .bad
/-! ### range -/
def rangeL (lo : Int) (n : Nat) : List PV := (List.range n).map fun i => .int (lo + (i : Nat))
def iRng (es : TVs) : TIt := fun ρ S => (es ρ S).bind fun xs S => match xs with
  | [.int j] => if -(2 ^ 62) ≤ j ∧ j ≤ 16777216 then .ok (rangeL 0 j.toNat, none) S else .bad
  | [.int i, .int j] => if -(2 ^ 62) ≤ i ∧ i < 2 ^ 62 ∧ -(2 ^ 62) ≤ j ∧ j < 2 ^ 62 ∧ j - i ≤ 16777216 then .ok (rangeL i (j - i).toNat, none) S else .bad
  | _ => .bad
variable {a b : Expr} {evs : TVs} {p : Pos}
/-! ### for -/
noncomputable def forL (tg : Tgt) (b : TSt) (l : LI) : List PV → Env' → Store → SR
  | [], ρ, S => if lkI l S then .nx ρ S else .bad
  | x :: r, ρ, S => if lkI l S then match tg x ρ with
    | some ρ1 => match b ρ1 S with
      | .nx ρ' S' => forL tg b l r ρ' S'
      | .cnt ρ' S' => forL tg b l r ρ' S'
      | .brk ρ' S' => .nx ρ' S'
      | o => o
    | none => .bad
    else .bad
noncomputable def sFor (tg : Tgt) (it : TIt) (b : TSt) : TSt := fun ρ S => (it ρ S).sr ρ fun l S => forL tg b l l.1 ρ S
variable {vs : List Nat} {t : Tgt} {body : List Stmt} {sb : TSt}
/-! ### while -/
def whileL (c : TB) (b : TSt) : Nat → Env' → Store → SR
  | 0, _, _ => .bad
  | k + 1, ρ, S => (c ρ S).sr ρ fun x S => if x = true then match b ρ S with
    | .nx ρ' S' => whileL c b k ρ' S'
    | .cnt ρ' S' => whileL c b k ρ' S'
    | .brk ρ' S' => .nx ρ' S'
    | o => o
    else .nx ρ S
open Classical in
/-- the while's end, however many turns it takes -/
noncomputable def sWhile (c : TB) (b : TSt) : TSt := fun ρ S => if h : ∃ k, whileL c b k ρ S ≠ .bad then whileL c b h.choose ρ S else .bad
end
end
/-! Fw7: comprehensions, functions and their calls. -/
section
/-! ### comprehensions -/
def wipeE (ρ : Env') : List Nat → Env'
  | [] => ρ
  | v :: vs => (wipeE ρ vs).set v none
/-- the turns of a comprehension; what the element raises isn't told -/
noncomputable def compL (tg : Tgt) (c : TB) (el : TV) (ρ : Env') (l : LI) : List PV → List PV → Store → Res LL
  | [], acc, S => if lkI l S then .ok (acc, none) S else .bad
  | x :: r, acc, S => if lkI l S then match tg x ρ with
    | some ρ1 => match c ρ1 S with
      | .ok true S1 => match el ρ1 S1 with
        | .ok y S2 => compL tg c el ρ l r (acc ++ [y]) S2
        | _ => .bad
      | .ok false S1 => compL tg c el ρ l r acc S1
      | _ => .bad
    | none => .bad
    else .bad
noncomputable def lComp (tg : Tgt) (it : TIt) (c : TB) (el : TV) (vs : List Nat) : TL := fun ρ S => (it ρ S).bind fun l S => compL tg c el (wipeE ρ vs) l l.1 [] S
def bYes : TB := fun _ S => .ok true S
section
variable {X : Cx} {W : WX}
end
/-! ### what a function leaves: the store without what it threw away -/
mutual
def PV.low (n : Nat) : PV → Bool
  | .ref i => decide (i < n)
  | .tup xs => PV.lows n xs
  | .frl xs => PV.lows n xs
  | _ => true
def PV.lows (n : Nat) : List PV → Bool
  | [] => true
  | x :: xs => PV.low n x && PV.lows n xs
end
def lowK {κ : Type} (n : Nat) : List (κ × PV) → Bool
  | [] => true
  | p :: r => p.2.low n && lowK n r
def lowN (n : Nat) : List (PV × PV) → Bool
  | [] => true
  | p :: r => (p.1.low n && p.2.low n) && lowN n r
def PObj.low (n : Nat) : PObj → Bool
  | .lst xs => PV.lows n xs
  | .dic kvs => lowK n kvs
  | .ins _ fs => lowK n fs
  | .exn _ fs => lowK n fs
  | .dicW kvs => lowK n kvs
  | .dicN kvs => lowN n kvs
  | .dicM kvs => lowN n kvs
section
variable {K : PySem.W.Frag} {cm : CM} {μ μ' μ'' : List Addr} {H H' : Hp} {S S' : Store}
/-- the things that stood are as they were, or hold nothing newer -/
def gcOk (S0 S : Store) : Prop := S0.length ≤ S.length ∧ ∀ i, i < S0.length → S[i]? = S0[i]? ∨ ∃ o, S[i]? = some o ∧ o.low S0.length = true
open Classical in
noncomputable def gcV (S0 : Store) (v : PV) (S : Store) : Res PV :=
  if gcOk S0 S then
    if v.low S0.length = true then .ok v (S.take S0.length)
    else match v with
      | .ref j => match S[j]? with
        | some o => if S0.length ≤ j ∧ o.low S0.length = true then .ok (.ref S0.length) (S.take S0.length ++ [o]) else .ok v S
        | none => .ok v S
      | _ => .ok v S
  else .ok v S
open Classical in
noncomputable def gcX (S0 : Store) (e : PX) (S : Store) : Res PV :=
  if gcOk S0 S ∧ lowK S0.length e.fd = true then .exc e (S.take S0.length) else .exc e S
noncomputable def fnV (np nl : Nat) (b : TSt) : List PV → Store → Res PV := fun args S =>
  if args.length = np then match b (args.map some ++ List.replicate (nl - np) none) S with
    | .ret v S' => gcV S v S'
    | .nx _ S' => gcV S .non S'
    | .exc e _ S' => gcX S e S'
    | _ => .bad
  else .bad
end
/-! ### a def, by its body -/
section
variable {P : Program} {w : World} {K : PySem.W.Frag} {mg : Str → Option Value} {base : Heap}
end
/-! ### the call of a def -/
section
variable {X : Cx} {W : WX} {k : Nat} {f : Addr} {fd : FuncData} {ps : List Str} {F : List PV → Store → Res PV} {x : Str} {p pos : Pos} {e : Expr} {es : List Expr} {evs : TVs}
def vApp (F : List PV → Store → Res PV) (es : TVs) : TV := fun ρ S => (es ρ S).bind fun xs S => F xs S
end
end
/-! Fw8: lists joined, methods of lists and texts, dicts written out, constants of the module. -/
section
section
variable {X : Cx} {W : WX} {a b e o : Expr} {es : List Expr} {ea eb eo : TV} {la lb el : TL} {evs : TVs} {pos apos cpos : Pos}
/-- a list that is held, as a list -/
def lVal (e : TV) : TL := fun ρ S => (e ρ S).bind fun x S => match x with
  | .ref j => match S[j]? with
    | some (.lst xs) => .ok (xs, some j) S
    | _ => .bad
  | _ => .bad
/-- list + list -/
noncomputable def lCat (a b : TL) : TL := fun ρ S => (a ρ S).bind fun l S => (b ρ S).bind fun m S => if lkOk l S ∧ l.1.length + m.1.length ≤ sizeLine then .ok (l.1 ++ m.1, none) S else .bad
/-- a list that is as it was, still there -/
theorem RL.keep {K : PySem.W.Frag} {cm : CM} {μ μ' : List Addr} {S S' : Store} {H0 H H' : Hp} {l : LL} {a : Addr} (R : RS K cm μ S H) (R' : RS K cm μ' S' H') (E : Ext μ H μ' H') (h : RL K H0 μ S H l a) (lk : lkOk l S') :
    ∃ vs, H' a = some (.lst vs) ∧ l.1.length ≤ sizeLine ∧ RVs K μ' H' l.1 vs := by
  unfold RL at h
  unfold lkOk at lk
  cases hl : l.2 with
  | none =>
    rw [hl] at h
    obtain ⟨_, hm, vs, h1, l1, r⟩ := h
    exact ⟨vs, E.kp _ _ h1 hm, l1, r.mono R E⟩
  | some j =>
    rw [hl] at h lk
    exact R'.ob j a _ (E.pre _ _ h.1) lk
/-! ### methods of lists -/
/-- o.m(..) of a list of the store: what it gives, what the list is then -/
def vLm (f : List PV → List PV → Option (PV × List PV)) (o : TV) (es : TVs) : TV := fun ρ S => (o ρ S).bind fun x S => match x with
  | .ref j => match S[j]? with
    | some (.lst _) => (es ρ S).bind fun ys S => match S[j]? with
      | some (.lst xs) => match f xs ys with
        | some (r, zs) => .ok r (S.set j (.lst zs))
        | none => .bad
      | _ => .bad
    | _ => .bad
  | _ => .bad
def mAppend (xs ys : List PV) : Option (PV × List PV) := match ys with
  | [y] => if xs.length < sizeLine then some (.non, xs ++ [y]) else none
  | _ => none
/-! o.extend(list) -/
noncomputable def vExt (o : TV) (l : TL) : TV := fun ρ S => (o ρ S).bind fun x S => match x with
  | .ref j => match S[j]? with
    | some (.lst _) => (l ρ S).bind fun m S => match S[j]? with
      | some (.lst xs) => if xs.length + m.1.length ≤ sizeLine ∧ m.2 ≠ some j then .ok .non (S.set j (.lst (xs ++ m.1))) else .bad
      | _ => .bad
    | _ => .bad
  | _ => .bad
/-! ### methods of texts -/
def vSm (f : Str → List PV → Option PV) (o : TV) (es : TVs) : TV := fun ρ S => (o ρ S).bind fun x S => match x with
  | .str z => (es ρ S).bind fun ys S => ofO (f z ys) S
  | _ => .bad
def lSm (f : Str → List PV → Option (List PV)) (o : TV) (es : TVs) : TL := fun ρ S => (o ρ S).bind fun x S => match x with
  | .str z => (es ρ S).bind fun ys S => match f z ys with
    | some zs => .ok (zs, none) S
    | none => .bad
  | _ => .bad
def vSmL (f : Str → List PV → Option PV) (o : TV) (l : TL) : TV := fun ρ S => (o ρ S).bind fun x S => match x with
  | .str z => (l ρ S).bind fun m S => ofO (f z m.1) S
  | _ => .bad
def asStr : List PV → Option (List Str)
  | [] => some []
  | .str b :: r => (asStr r).map (b :: ·)
  | _ :: _ => none
def mSplit (z : Str) (ys : List PV) : Option (List PV) := match ys with
  | [.str b] => if b.length ≠ 0 ∧ z.length + 2 ≤ sizeLine ∧ (∀ p ∈ Txt.split z b, SOk p) ∧ (Txt.split z b).length ≤ sizeLine then some ((Txt.split z b).map .str) else none
  | _ => none
def mJoin (z : Str) (ys : List PV) : Option PV := match asStr ys with
  | some bs => if (bs.map (·.length)).sum + bs.length * z.length ≤ 16777216 ∧ SOk (Txt.join z bs) then some (.str (Txt.join z bs)) else none
  | none => none
def mIndex (z : Str) (ys : List PV) : Option PV := match ys with
  | [.str b] => match Builtin.Str.occurrences z b 0 z.length 1 with
    | i :: _ => some (.int (i : Nat))
    | [] => none
  | _ => none
/-! ### {}, {k: v} -/
def vDic0 : TV := fun _ S => .ok (.ref S.length) (S ++ [.dic []])
def vDic1 (a b : TV) : TV := fun ρ S => (a ρ S).bind fun k S => (b ρ S).bind fun v S => match keyOf k with
  | some k => .ok (.ref S.length) (S ++ [.dic [(k, v)]])
  | none => .bad
/-! ### constants of the module -/
end
end
/-! Fw9: lists compared; the defs of a text, all at once. -/
section
section
variable {X : Cx} {W : WX} {a b e o : Expr} {es : List Expr} {ea eb eo : TV} {la lb el : TL} {evs : TVs} {pos apos cpos : Pos}
/-! ### lists compared -/
noncomputable def vEqL (neg : Bool) (a b : TL) : TV := fun ρ S => (a ρ S).bind fun l S => (b ρ S).bind fun m S =>
  if lkOk l S then match eqS S (.frl l.1) (.frl m.1) with
    | some k => .ok (.bl (neg != k)) S
    | none => .bad
  else .bad
end
/-! ### the defs of a text -/
abbrev FV := List PV → Store → Res PV
section
variable {X : Cx} {W : WX} {n : Nat} {x : Str} {ps : List Str} {F : FV} {p pos : Pos} {e : Expr} {es : List Expr} {evs : TVs}
end
end
/-! Fw10: the head: what the top leaves, constants looked at, the law's end. -/
section
/-! ### a constant, looked at -/
mutual
def chkV (K : PySem.W.Frag) : PV → Value → Bool
  | .non, .none => true
  | .bl b, .bool c => b == c
  | .int i, .int j _ => decide (i = j)
  | .str x, .str y _ => decide (x = y) && decide (SOk x)
  | .tup vs, .ref a => match K.lookup a with
    | some ⟨.type c, none, .seq its _, _⟩ => decide (c = "tuple") && (decide (its.size ≤ sizeLine) && chkVs K vs its.toList)
    | _ => false
  | _, _ => false
def chkVs (K : PySem.W.Frag) : List PV → List Value → Bool
  | [], [] => true
  | v :: vs, u :: us => chkV K v u && chkVs K vs us
  | _, _ => false
end
def chkG (K : PySem.W.Frag) (p : Str × PV) : Bool := match PySem.W.nsIn K mainGlobals p.1 with
  | some (some u) => chkV K p.2 u
  | _ => false
/-! ### the law's end -/
end
/-! Fw11: reckoning with worths: one step each, what is thrown away, loops. -/
section
section
variable {ρ : Env'} {S : Store} {a b c : TV} {ta tb tc : TB} {la lb : TL} {es : TVs} {s t : TSt} {i : Nat}
def PV.num : PV → Nat
  | .ref j => j
  | _ => 0
/-! ### statements -/
end
/-! ### what a def gives back -/
noncomputable def fin (S : Store) (r : SR) : Res PV := match r with
  | .ret v S' => gcV S v S'
  | .nx _ S' => gcV S .non S'
  | .exc e _ S' => gcX S e S'
  | _ => .bad
@[simp] theorem fin_ret (S : Store) (v : PV) (S' : Store) : fin S (.ret v S') = gcV S v S' := rfl
@[simp] theorem fin_nx (S : Store) (ρ : Env') (S' : Store) : fin S (.nx ρ S') = gcV S .non S' := rfl
/-! ### data lie low -/
theorem dats_iff {xs : List PV} : PV.dats xs = true ↔ ∀ x ∈ xs, x.dat = true := by
  induction xs with
  | nil => simp [PV.dats]
  | cons x xs ih => simp [PV.dats, ih]
theorem lows_iff {n : Nat} {xs : List PV} : PV.lows n xs = true ↔ ∀ x ∈ xs, x.low n = true := by
  induction xs with
  | nil => simp [PV.lows]
  | cons x xs ih => simp [PV.lows, ih]
/-! ### loops -/
section
variable {tg : Tgt} {b : TSt} {l : LI} {c : TB} {el : TV}
end
theorem deref_tup (S : Store) (xs : List PV) : deref S (.tup xs) = .tup xs := rfl
theorem eqS_dat {S : Store} {x y : PV} (h1 : (deref S x).dat = true) (h2 : (deref S y).dat = true) (h3 : (deref S x).dep ≤ deepest) : eqS S x y = some (PV.eqv (deref S x) (deref S y)) := by
  unfold eqS; rw [if_pos ⟨h1, h2, h3⟩]
theorem get_app {α : Type} (S J : List α) (o : α) : (S ++ o :: J)[S.length]? = some o := by simp
theorem get_app_lt {α : Type} {S J : List α} {i : Nat} {o : α} (h : S[i]? = some o) : (S ++ J)[i]? = some o := by
  rw [List.getElem?_append_left (List.getElem?_eq_some_iff.mp h).1]; exact h
theorem get_set {α : Type} {S : List α} {i : Nat} {o u : α} (h : S[i]? = some o) : (S.set i u)[i]? = some u := List.getElem?_set_self (List.getElem?_eq_some_iff.mp h).1
end
/-! Fw12: what a step must lead to, rule by rule. -/
section
def W {α : Type} (r : Res α) (Q : α → Store → Prop) (E : PX → Store → Prop) : Prop := match r with
  | .ok a S => Q a S
  | .exc e S => E e S
  | .bad => False
def Op {α : Type} (o : Option α) (Q : α → Prop) : Prop := match o with
  | some x => Q x
  | none => False
def Br (x : Bool) (A B : Prop) : Prop := (x = true → A) ∧ (x = false → B)
theorem Op.of {α : Type} {o : Option α} {Q : α → Prop} {x : α} (h : o = some x) (q : Q x) : Op o Q := by subst h; exact q
section
variable {α β : Type} {Q : α → Store → Prop} {E : PX → Store → Prop} {r : Res β} {S : Store} {ρ : Env'}
theorem W.ok {Q : β → Store → Prop} (h : W r Q (fun _ _ => False)) : ∃ a S, r = .ok a S ∧ Q a S := by
  cases r with
  | ok a S => exact ⟨a, S, rfl, h⟩
  | exc e S => exact h.elim
  | bad => exact h.elim
end
/-! ### expressions -/
section
variable {Q : PV → Store → Prop} {QB : Bool → Store → Prop} {QL : LL → Store → Prop} {QA : List PV → Store → Prop} {QO : Option Int → Store → Prop} {E : PX → Store → Prop} {ρ : Env'} {S : Store} {a b c e o : TV} {ta tb : TB} {la lb l : TL} {es : TVs} {lo hi : TOv}
end
/-! ### statements -/
section
variable {Q : SR → Prop} {ρ : Env'} {S : Store} {e o i v : TV} {ta tb : TB} {l : TL} {a b : TSt}
end
/-! ### operations -/
section
variable {P : PV → Prop} {S : Store}
end
/-! ### what stays -/
/-- things come, none changes -/
structure Kp (S S' : Store) : Prop where
  le : S.length ≤ S'.length
  get : ∀ j, j < S.length → S'[j]? = S[j]?
theorem Kp.refl (S : Store) : Kp S S := ⟨Nat.le_refl _, fun _ _ => rfl⟩
theorem Kp.app (S J : Store) : Kp S (S ++ J) := ⟨by simp, fun j hj => List.getElem?_append_left hj⟩
theorem Kp.trans {S T U : Store} (a : Kp S T) (b : Kp T U) : Kp S U := ⟨Nat.le_trans a.le b.le, fun j hj => (b.get j (Nat.lt_of_lt_of_le hj a.le)).trans (a.get j hj)⟩
theorem Kp.take {S S' : Store} (k : Kp S S') : S'.take S.length = S := by
  refine List.ext_getElem? fun i => ?_
  by_cases h : i < S.length
  · rw [List.getElem?_take_of_lt h, k.get i h]
  · rw [List.getElem?_eq_none_iff.mpr (by simp; omega), List.getElem?_eq_none_iff.mpr (by omega)]
theorem lt_of_get {S : Store} {j : Nat} {o : PObj} (h : S[j]? = some o) : j < S.length := (List.getElem?_eq_some_iff.mp h).1
theorem Kp.at {S S' : Store} (k : Kp S S') {j : Nat} {o : PObj} (h : S[j]? = some o) : S'[j]? = some o := (k.get j (lt_of_get h)).trans h
/-- things come; i changes, and stays as P has it -/
structure Fr (P : PObj → Prop) (i : Nat) (S S' : Store) : Prop where
  le : S.length ≤ S'.length
  get : ∀ j, j < S.length → j ≠ i → S'[j]? = S[j]?
  own : ∃ o, S'[i]? = some o ∧ P o
section
variable {P : PObj → Prop} {i : Nat} {S S' T U : Store}
theorem Kp.fr (k : Kp S S') (h : ∃ o, S[i]? = some o ∧ P o) : Fr P i S S' := ⟨k.le, fun j hj _ => k.get j hj, by obtain ⟨o, h, p⟩ := h; exact ⟨o, k.at h, p⟩⟩
theorem Fr.trans (a : Fr P i S T) (b : Fr P i T U) : Fr P i S U := ⟨Nat.le_trans a.le b.le, fun j hj hi => (b.get j (Nat.lt_of_lt_of_le hj a.le) hi).trans (a.get j hj hi), b.own⟩
theorem Fr.kp (a : Fr P i S T) (k : Kp T U) : Fr P i S U := a.trans (k.fr a.own)
theorem Fr.set {o o' : PObj} (h : S[i]? = some o) (p : P o') : Fr P i S (S.set i o') := ⟨by simp, fun j hj hi => List.getElem?_set_ne (Ne.symm hi), o', get_set h, p⟩
theorem Fr.of {j : Nat} {o : PObj} (a : Fr P i S T) (h : S[j]? = some o) (hi : j ≠ i) : T[j]? = some o := (a.get j (lt_of_get h) hi).trans h
end
/-! ### what a def gives back -/
section
variable {P : PObj → Prop} {i : Nat} {S T : Store} {Q : PV → Store → Prop} {E : PX → Store → Prop} {v : PV}
end
/-! ### walking -/
end
/-! Fw13: the small defs that every law carries. -/
section
/-- a well: what it still holds, its number, how often -/
def isWell (o : PObj) : Prop := ∃ a b d : Int, o = .lst [.int a, .int b, .int d]
theorem isWell.low {o : PObj} (n : Nat) (h : isWell o) : o.low n = true := by
  obtain ⟨a, b, d, rfl⟩ := h; rfl
def HasW (i : Nat) (S : Store) : Prop := ∃ o, S[i]? = some o ∧ isWell o
theorem HasW.lt {i : Nat} {S : Store} (h : HasW i S) : i < S.length := by
  obtain ⟨o, h, _⟩ := h; exact lt_of_get h
end
end Ev
namespace Ev
open PySem PySem.Spec PyProof.Rows L2 SX
/-! Fw14: texts by their code points, parts of lists. -/
section
/-! ### parts -/
theorem S_ex (z : Str) : ∃ a : List Nat, z = S a := ⟨z.cps.toList, (S_tl z).symm⟩
theorem SOk_S {a : List Nat} : SOk (S a) ↔ a.length ≤ sizeLine ∧ ∀ c ∈ a, c < 1114112 := by
  unfold SOk PyData.strOk
  rw [S_len]
  simp
/-! ### data -/
theorem eqv_str (a b : Str) : PV.eqv (.str a) (.str b) = (a == b) := rfl
theorem dats_strs (l : List Str) : PV.dats (l.map .str) = true := by
  induction l with
  | nil => rfl
  | cons a l ih => simp only [List.map_cons, PV.dats, PV.dat, ih, Bool.and_self]
theorem deps_strs (l : List Str) : PV.deps (l.map .str) = 0 := by
  induction l with
  | nil => rfl
  | cons a l ih => simp only [List.map_cons, PV.deps, PV.dep, ih, Nat.max_self]
theorem eqvs_strs (l m : List Str) : PV.eqvs (l.map .str) (m.map .str) = (l == m) := by
  induction l generalizing m with
  | nil => cases m <;> rfl
  | cons a l ih =>
    cases m with
    | nil => rfl
    | cons b m => simp only [List.map_cons, PV.eqvs, eqv_str, ih]; rfl
theorem eq_tups {S0 : Store} (l m : List Str) : eqS S0 (.tup (l.map .str)) (.tup (m.map .str)) = some (l == m) := by
  rw [eqS_dat (by simp only [deref_tup, PV.dat, dats_strs]) (by simp only [deref_tup, PV.dat, dats_strs]) (by simp only [deref_tup, PV.dep, deps_strs]; decide)]
  simp only [deref_tup, PV.eqv, eqvs_strs]
/-! ### the letters -/
def lt26 : List Nat := [97, 98, 99, 100, 101, 102, 103, 104, 105, 106, 107, 108, 109, 110, 111, 112, 113, 114, 115, 116, 117, 118, 119, 120, 121, 122]
def isLt (c : Nat) : Prop := 97 ≤ c ∧ c < 123
theorem mem_lt26 {c : Nat} : c ∈ lt26 ↔ isLt c := by
  constructor
  · intro h
    have : ∀ c ∈ lt26, 97 ≤ c ∧ c < 123 := by decide
    exact this c h
  · intro h
    have : ∀ k < 26, 97 + k ∈ lt26 := by decide
    have e := this (c - 97) (by have := h.2; omega)
    rwa [show 97 + (c - 97) = c by have := h.1; omega] at e
end
end Ev
namespace Ev
open PySem PySem.Spec PyProof.Rows L2
/-! Fw15: more of the language. -/
section
section
variable {QL : LL → Store → Prop} {E : PX → Store → Prop} {ρ : Env'} {S : Store} {a : TV}
end
end
end Ev
namespace Ev
open PySem PySem.Spec PyProof.Rows L2 SX
/-! Fw16: several things that change; names that are drawn. -/
section
/-- things come; only those of L change, each stays as it must be -/
structure FrM (L : List (Nat × (PObj → Prop))) (S S' : Store) : Prop where
  le : S.length ≤ S'.length
  get : ∀ j, j < S.length → (∀ p ∈ L, p.1 ≠ j) → S'[j]? = S[j]?
  own : ∀ p ∈ L, ∃ o, S'[p.1]? = some o ∧ p.2 o
section
variable {L : List (Nat × (PObj → Prop))} {P : PObj → Prop} {i : Nat} {S S' T U : Store}
def OwnM (L : List (Nat × (PObj → Prop))) (S : Store) : Prop := ∀ p ∈ L, ∃ o, S[p.1]? = some o ∧ p.2 o
theorem Kp.frM (k : Kp S S') (h : OwnM L S) : FrM L S S' := ⟨k.le, fun j hj _ => k.get j hj, fun p hp => by obtain ⟨o, h, q⟩ := h p hp; exact ⟨o, k.at h, q⟩⟩
theorem FrM.trans (a : FrM L S T) (b : FrM L T U) : FrM L S U := ⟨Nat.le_trans a.le b.le, fun j hj hi => (b.get j (Nat.lt_of_lt_of_le hj a.le) hi).trans (a.get j hj hi), b.own⟩
theorem FrM.kp (a : FrM L S T) (k : Kp T U) : FrM L S U := a.trans (k.frM a.own)
theorem FrM.of {j : Nat} {o : PObj} (a : FrM L S T) (h : S[j]? = some o) (hi : ∀ p ∈ L, p.1 ≠ j) : T[j]? = some o := (a.get j (lt_of_get h) hi).trans h
/-- a step that changes one of them -/
theorem Fr.frM (a : Fr P i S T) (h : OwnM L S) (hi : (i, P) ∈ L) (hn : ∀ p ∈ L, p.1 = i → p.2 = P) : FrM L S T := by
  refine ⟨a.le, fun j hj hk => a.get j hj (fun e => hk _ hi e.symm), fun p hp => ?_⟩
  by_cases e : p.1 = i
  · rw [e, hn p hp e]; exact a.own
  · obtain ⟨o, h1, q⟩ := h p hp
    exact ⟨o, a.of h1 e, q⟩
variable {Q : PV → Store → Prop} {E : PX → Store → Prop} {v : PV}
end
end
/-! Fw17: words that bar, names unlike each other. -/
section
section
variable {n : Nat} {Q : PV → Store → Prop} {E : PX → Store → Prop} {S0 : Store}
/-! the barred words -/
def barL : List Str := ["make", "use", "ask", "call", "see", "blind", "move", "leave", "loop", "out", "back", "fit", "bare", "as", "kind", "def", "main", "rest", "gone"]
/-! names unlike each other -/
def good (z : Str) : Prop := 1 ≤ z.length ∧ z.length ≤ 8 ∧ ∀ c ∈ z.cps.toList, isLt c
/-! a well -/
end
end
end Ev
namespace Ev
open PySem PySem.Spec PyProof.Rows
/-! Fw18: how many texts are unlike: the number of a set's texts. -/
section
/-- one more text: it counts if it is new -/
def oneMore (l : List Str) (x : Str) : List Str := if x ∈ l then l else l ++ [x]
def unlikes (xs : List Str) : List Str := xs.foldl oneMore []
abbrev TxtSet (prog : Program) (w : World) (h : Heap) (a : Addr) (l : List Str) : Prop := h.SetOf (PySem.strKind prog w) a (fun k => decide (k ∈ l)) l.length
section
variable {prog : Program} {w : World} {A : Around} {R : Result → Shared → Prop} {I : Addr} {fp wr : List Addr} {G : Array GenState → Array GenState → Prop} {n : Nat} {P : Nat → Value → Prop} {St : Nat → Shared → Prop}
theorem TxtSet.keep {h h' : Heap} {a : Addr} {l : List Str} (t : TxtSet prog w h a l) (k : ∀ o, h.get? a = some o → h'.get? a = some o) : TxtSet prog w h' a l := by
  obtain ⟨o, es, ep, tb, e, r⟩ := t
  exact ⟨o, es, ep, tb, k o e, r⟩
end
/-! ### set(xs) -/
end
end Ev
namespace Ev
open PySem PySem.Spec PyProof.Rows L2
/-! Fw19: len(set(xs)) of texts, as an expression. -/
section
section
variable {X : Cx} {W : WX} {a : Expr} {ta : TE} {ea : TV} {p p2 q pos : Pos}
end
section
variable {Q : PV → Store → Prop} {E : PX → Store → Prop} {ρ : Env'} {S : Store} {a : TV}
end
end
end Ev
namespace Ev
open PySem PySem.Spec PyProof.Rows L2 SX
/-! Fw20: kinds as data, the drawing of kinds. -/
section
abbrev Out := Str × Option Str × Option Str
abbrev Deed := Str × List Out
abbrev State := Str × Bool × List Deed
def eO : Option Str → PV
  | some z => .str z
  | none => .non
/-! data -/
theorem deps_le {xs : List PV} {n : Nat} (h : ∀ x ∈ xs, x.dep ≤ n) : PV.deps xs ≤ n := by
  induction xs with
  | nil => exact Nat.zero_le _
  | cons x xs ih =>
    simp only [PV.deps]
    have := h x (by simp)
    have := ih fun y hy => h y (by simp [hy])
    omega
/-- how many answers may still be made -/
def isSp (o : PObj) : Prop := ∃ v : Int, 0 ≤ v ∧ o = .lst [.int v]
abbrev LW (i sp : Nat) : List (Nat × (PObj → Prop)) := [(i, isWell), (sp, isSp)]
theorem hw2 {i sp : Nat} {S T : Store} (a : FrM (LW i sp) S T) : HasW i T := a.own (i, isWell) (by simp)
theorem hs2 {i sp : Nat} {S T : Store} (a : FrM (LW i sp) S T) : ∃ v : Int, 0 ≤ v ∧ T[sp]? = some (.lst [.int v]) := by
  obtain ⟨o, h, v, h0, rfl⟩ := a.own (sp, isSp) (by simp)
  exact ⟨v, h0, h⟩
theorem ne2 {i sp j : Nat} (h1 : i ≠ j) (h2 : sp ≠ j) : ∀ p ∈ LW i sp, p.1 ≠ j := by
  intro p hp
  simp only [List.mem_cons, List.not_mem_nil, or_false] at hp
  rcases hp with rfl | rfl
  · exact h1
  · exact h2
theorem start2 {i sp : Nat} {S : Store} (h1 : HasW i S) (h2 : ∃ v : Int, 0 ≤ v ∧ S[sp]? = some (.lst [.int v])) : FrM (LW i sp) S S := (Kp.refl S).frM fun p hp => by
  simp only [List.mem_cons, List.not_mem_nil, or_false] at hp
  rcases hp with rfl | rfl
  · exact h1
  · obtain ⟨v, h0, h⟩ := h2; exact ⟨_, h, v, h0, rfl⟩
def outOk (ws st ks : List Str) (o : Out) : Prop := o.1 ∈ ws ∧ (∀ z, o.2.1 = some z → z ∈ st) ∧ ∀ z, o.2.2 = some z → z ∈ ks
def outsOk (ws st ks : List Str) (os : List Out) : Prop := os.length ≤ 6 ∧ (os.map (·.1)).Nodup ∧ ∀ o ∈ os, outOk ws st ks o
def deedOk (ws st ks : List Str) (d : Deed) : Prop := d.1 ∈ ws ∧ d.2 ≠ [] ∧ outsOk ws st ks d.2
def stateOk (ws st ks : List Str) (s : State) : Prop := s.2.2.length ≤ 8 ∧ (s.2.2.map (·.1)).Nodup ∧ ∀ d ∈ s.2.2, deedOk ws st ks d
end
/-! Fw21: what a name is. -/
section
section
variable {n : Nat} {Q : PV → Store → Prop} {E : PX → Store → Prop} {S0 : Store}
/-! names -/
def nmS (z : Str) : Bool := decide (1 ≤ z.length) && (decide (z.length ≤ 8) && (!decide (z ∈ barL) && z.cps.toList.all fun c => decide (c ∈ lt26)))
def nm : PV → Bool
  | .str z => nmS z
  | _ => false
end
/-! typed at every depth -/
end
end Ev
namespace Ev
/-! Fw22: a list made longer by a tuple. -/
section
open PySem PySem.Spec PyProof.Rows L2
section
variable {X : Cx} {W : WX} {o e : Expr} {eo ea : TV} {apos cpos : Pos}
end
section
variable {Q : PV → Store → Prop} {E : PX → Store → Prop} {ρ : Env'} {S : Store} {o a : TV}
end
end
end Ev
namespace Ev
open PySem PySem.Spec PyProof.Rows L2 SX
/-! Fw23: what a kind is, as the program looks at it. -/
/-! Fw24: what a deed is, as the program looks at it. -/
section
/-- the name at the head of a tuple -/
def hdN : PV → Str
  | .tup (.str z :: _) => z
  | _ => Str.empty
end
/-! Fw25: what a state is, as the program looks at it. -/
/-! Fw26: all outs of a kind. -/
/-! Fw27: what a kind is, as the program looks at it (begun). -/
/-! Fw28: is_kind, its last part. -/
/-! Fw29: is_kind, its middle. -/
/-! Fw30: is_kind. -/
/-! Fw31: is_book. -/
/-! Fw32: what the program tells of a kind. -/
section
def stOf (sts : List State) (z : Str) : State := (sts.find? fun s => s.1 == z).getD (z, false, [])
def looks (z : Str) (os : List Out) : Bool := !os.isEmpty && os.all fun o => o.2.1 == some z && o.2.2.isNone
section
variable {n : Nat} {Q : PV → Store → Prop} {E : PX → Store → Prop} {S0 : Store} {nm z d : Str} {sts : List State}
end
end
/-! Fw33: names that are drawn are none of the barred words. -/
/-! Fw34: a kind that is drawn is one. -/
section
theorem nm_good {z : Str} (h : good z) (hb : z ∉ barL) : nm (.str z) = true := by
  obtain ⟨h1, h2, h3⟩ := h
  simp only [nm, nmS, Bool.and_eq_true, decide_eq_true_eq, Bool.not_eq_true', decide_eq_false_iff_not, List.all_eq_true]
  exact ⟨h1, h2, hb, fun c hc => mem_lt26.mpr (h3 c hc)⟩
def allN (l : List Str) : Prop := ∀ z ∈ l, nm (.str z) = true
end
end Ev
/-! Fw35: is True, is False; a wider walk; loops that look for something. -/
namespace Ev
open PySem PySem.Spec PyProof.Rows L2 SX
section
variable {P : PV → Prop} {S : Store}
end
section
variable {ρ : Env'} {P : Env' → Prop}
end
/-! ### loops that look for something -/
/-- what stands at the places L is put otherwise -/
def reset (ρ : Env') (L : List Nat) (g : Nat → Option PV) : Env' := L.foldl (fun ρ i => ρ.set i (g i)) ρ
/-- alike but for the places L -/
def Off (L : List Nat) (ρ ρ' : Env') : Prop := ρ' = reset ρ L fun i => ρ'.getD i none
theorem Off.refl (L : List Nat) (ρ : Env') : Off L ρ ρ := by
  have h : ∀ (L : List Nat) (ρ' : Env'), ρ' = ρ → reset ρ' L (fun i => ρ.getD i none) = ρ := by
    intro L
    induction L with
    | nil => exact fun _ h => h
    | cons i L ih =>
      intro ρ' e
      subst e
      refine ih _ ?_
      refine List.ext_getElem? fun j => ?_
      by_cases hj : j = i
      · subst hj
        by_cases hl : j < ρ'.length
        · rw [List.getElem?_set_self hl, List.getElem?_eq_getElem hl]; simp [hl]
        · rw [List.getElem?_eq_none_iff.mpr (by simp; omega), List.getElem?_eq_none_iff.mpr (by omega)]
      · rw [List.getElem?_set_ne (Ne.symm hj)]
  exact (h L ρ rfl).symm
section
variable {tg : Tgt} {b : TSt} {l : LI} {ρ : Env'} {S : Store} {Q : SR → Prop}
end
/-! ### tests of the wider walk -/
end Ev

namespace Ev
open PySem PySem.Spec PyProof.Rows L2 SX
/-! Fw36: kinds that are drawn are kinds, books of them are books. -/
section
/-- a kind, as data -/
abbrev Kind := Str × List State
/-- what the drawing tells of a kind -/
structure kindOk (ws ks : List Str) (k : Kind) : Prop where
  nm : k.1 ∈ ws
  ne : k.2 ≠ []
  le : k.2.length ≤ 8
  nd : (k.2.map (·.1)).Nodup
  st : ∀ s ∈ k.2, s.1 ∈ ws ∧ stateOk ws (k.2.map (·.1)) ks s
theorem mem_outs {k : Kind} {o : Out} (h : o ∈ k.2.flatMap fun s => s.2.2.flatMap (·.2)) : ∃ s ∈ k.2, ∃ d ∈ s.2.2, o ∈ d.2 := by
  obtain ⟨s, hs, h⟩ := List.mem_flatMap.mp h
  obtain ⟨d, hd, h⟩ := List.mem_flatMap.mp h
  exact ⟨s, hs, d, hd, h⟩
theorem kindOk.out {ws ks : List Str} {k : Kind} (h : kindOk ws ks k) {o : Out} (ho : o ∈ k.2.flatMap fun s => s.2.2.flatMap (·.2)) : outOk ws (k.2.map (·.1)) ks o := by
  obtain ⟨s, hs, d, hd, h1⟩ := mem_outs ho
  exact ((h.st s hs).2.2.2 d hd).2.2.2.2 o h1
end
/-! Fw37 -/
section
end
/-! Fw38 -/
/-! Fw39 -/
section
theorem Off.ex {L : List Nat} {ρ ρ' : Env'} (h : Off L ρ ρ') : ∃ g, ρ' = reset ρ L g := ⟨_, h⟩
section
variable {Q : PV → Store → Prop} {E : PX → Store → Prop} {S0 : Store}
end
end
end Ev
namespace Ev
open PySem PySem.Spec PyProof.Rows L2 SX
open Sem (wp)
/-! Fw40: enumerate of lists and tuples, zip of lists and tuples. -/
section
/-! ### enumerate of a tuple, at the library's level -/
/-! ### lists enumerated, lists and tuples zipped: the pairs known -/
/-! ### as what is walked -/
/-! ### rules -/
section
variable {QI : LI → Store → Prop} {E : PX → Store → Prop} {ρ : Env'} {S : Store} {e : TV} {es : TVs}
variable {P : LI → Prop}
end
end
end Ev
namespace Ev
open PySem PySem.Spec PyProof.Rows L2 SX
/-! Fw41 -/
/-! Fw42 -/
/-! Fw43: what a kind is, by the law's own look. -/
/-! Fw44 -/
section
/-! ### a store of lists and dicts alone; how wide things are -/
def isLD : PObj → Bool
  | .ins _ _ => false
  | .exn _ _ => false
  | .dicW _ => false
  | .dicN _ => false
  | .dicM _ => false
  | _ => true
def AllLD (S : Store) : Prop := ∀ o ∈ S, isLD o = true
theorem AllLD.app {S J : Store} (a : AllLD S) (b : ∀ o ∈ J, isLD o = true) : AllLD (S ++ J) := fun o h => (List.mem_append.mp h).elim (a o) (b o)
theorem AllLD.one {S : Store} {o : PObj} (a : AllLD S) (b : isLD o = true) : AllLD (S ++ [o]) := a.app fun u h => by rw [List.mem_singleton.mp h]; exact b
theorem AllLD.take {S : Store} (a : AllLD S) (n : Nat) : AllLD (S.take n) := fun o h => a o (List.mem_of_mem_take h)
theorem isWell.ld {o : PObj} (h : isWell o) : isLD o = true := by obtain ⟨a, b, c, rfl⟩ := h; rfl
theorem AllLD.fr {i : Nat} {S U : Store} (a : AllLD S) (F : Fr isWell i S U) (u : U.length = S.length) : AllLD U := fun o h => by
  obtain ⟨j, hj⟩ := List.mem_iff_getElem?.mp h
  by_cases e : j = i
  · subst e
    obtain ⟨o', h', w⟩ := F.own
    rw [hj] at h'; cases h'
    exact w.ld
  · have hl := lt_of_get hj
    rw [F.get j (by omega) e] at hj
    exact a o (List.mem_of_getElem? hj)
mutual
def wid : PV → Nat
  | .tup xs => max xs.length (wids xs)
  | _ => 0
def wids : List PV → Nat
  | [] => 0
  | x :: xs => max (wid x) (wids xs)
end
mutual
theorem low_le {m n : Nat} (h : m ≤ n) : ∀ x : PV, x.low m = true → x.low n = true
  | .non, _ => rfl
  | .bl _, _ => rfl
  | .int _, _ => rfl
  | .str _, _ => rfl
  | .frl xs, l => lows_le h xs l
  | .tup xs, l => lows_le h xs l
  | .ref j, l => by simp only [PV.low, decide_eq_true_eq] at *; omega
theorem lows_le {m n : Nat} (h : m ≤ n) : ∀ xs : List PV, PV.lows m xs = true → PV.lows n xs = true
  | [], _ => rfl
  | x :: xs, l => by
    rw [PV.lows, Bool.and_eq_true] at *
    exact ⟨low_le h x l.1, lows_le h xs l.2⟩
end
end
/-! Fw45 -/
section
def wOk (n m : Nat) (y : PV) : Prop := y.low m = true ∧ wid y ≤ n
theorem wOk.mono {n m n' m' : Nat} {y : PV} (h : wOk n m y) (a : n ≤ n') (b : m ≤ m') : wOk n' m' y := ⟨low_le b y h.1, Nat.le_trans h.2 a⟩
end
/-! Fw46 -/
/-! Fw47 -/
section
end
/-! Fw48 -/
end Ev
namespace Ev
open PySem PySem.Spec PyProof.Rows L2 SX
open Sem (wp)
/-! Fw49: t[::-1] of a tuple. -/
section
section
variable {X : Cx} {W : WX} {e : Expr} {te : TE} {ev : TV} {k : Nat} {p1 p2 p3 pos : Pos}
end
section
variable {Q : PV → Store → Prop} {E : PX → Store → Prop} {ρ : Env'} {S : Store} {a : TV}
end
end
end Ev
namespace Ev
open PySem PySem.Spec PyProof.Rows L2 SX
/-! Fw50 -/
/-! Fw51 -/
/-! Fw52 -/
/-! Fw53: sum of a list of whole numbers. -/
/-! Fw54 -/
/-! Fw55 -/
/-! Fw56 -/
section
section
variable {Q : PV → Store → Prop} {E : PX → Store → Prop} {S0 : Store}
/-! ### kinds of decks -/
def nmO (o : Option Str) (l : List Str) : Prop := ∀ z, o = some z → z ∈ l
def dOut (st ks : List Str) (o : Out) : Prop := nm (.str o.1) = true ∧ nmO o.2.1 st ∧ nmO o.2.2 ks
def dDeed (st ks : List Str) (d : Deed) : Prop := nm (.str d.1) = true ∧ d.2 ≠ [] ∧ d.2.length ≤ 6 ∧ (d.2.map (·.1)).Nodup ∧ ∀ o ∈ d.2, dOut st ks o
def dState (st ks : List Str) (s : State) : Prop := s.1 ∈ st ∧ s.2.2.length ≤ 2 ∧ (s.2.2.map (·.1)).Nodup ∧ ∀ d ∈ s.2.2, dDeed st ks d
def dKind (ks : List Str) (k : Kind) : Prop := k.2 ≠ [] ∧ k.2.length ≤ 8 ∧ allN (k.2.map (·.1)) ∧ (k.2.map (·.1)).Nodup ∧ ∀ s ∈ k.2, dState (k.2.map (·.1)) ks s
end
end
/-! Fw57: rows as they are drawn, in plain Lean. -/
section
/-! ### what a row is -/
def Path (ws : List Str) (x : PV) : Prop := ∃ ps : List Str, x = .tup (ps.map .str) ∧ 0 < ps.length ∧ ps.length ≤ 3 ∧ ∀ z ∈ ps, z ∈ ws
def Branch (ws : List Str) (hold : Bool) (R : PV → Prop) (b : PV) : Prop := ∃ (a : Str) (o r : PV), b = .tup [.str a, o, r] ∧ a ∈ ws ∧ (o = .non ∨ (hold = true ∧ Path ws o)) ∧ R r
def Branches (ws : List Str) (hold : Bool) (R : PV → Prop) (x : PV) : Prop := ∃ bs, x = .tup bs ∧ bs.length ≤ 6 ∧ (bs.map hdN).Nodup ∧ ∀ b ∈ bs, Branch ws hold R b
structure RC where
  ks : List Str
  ds : List (Str × Nat)
  ws : List Str
inductive Simple (C : RC) (l : Nat) : PV → Prop
  | out (k : Nat) (h1 : 1 ≤ k) (h2 : k ≤ l) : Simple C l (.tup [.str "out", .int k])
  | make (p : PV) (k : Str) (h1 : Path C.ws p) (h2 : k ∈ C.ks) : Simple C l (.tup [.str "make", p, .str k])
  | see (z : Str) (p : PV) (h1 : z ∈ C.ws) (h2 : Path C.ws p) : Simple C l (.tup [.str "see", .str z, p])
  | move (p p2 : PV) (h1 : Path C.ws p) (h2 : Path C.ws p2) : Simple C l (.tup [.str "move", p, p2])
  | leave (p : PV) (h1 : Path C.ws p) : Simple C l (.tup [.str "leave", p])
  | holds (t : Str) (ps : List Str) (h1 : t = "fit" ∨ t = "bare") (h2 : ps.length ≤ 6) (h3 : ps.Nodup) (h4 : ∀ z ∈ ps, z ∈ C.ws) : Simple C l (.tup [.str t, .tup (ps.map .str)])
  | name (t z : Str) (h1 : t = "blind" ∨ t = "back") (h2 : z ∈ C.ws) : Simple C l (.tup [.str t, .str z])
def RowOf (W : PV → Prop) (x : PV) : Prop := ∃ ws, x = .tup ws ∧ ws.length ≤ 7 ∧ ∀ w ∈ ws, W w
/-- a word with words within words, R d l: what a row is, d levels within, l loops around -/
inductive Deep (C : RC) (R : Nat → PV → Prop) (l : Nat) : PV → Prop
  | simple (x : PV) (h : Simple C l x) : Deep C R l x
  | loop (r : PV) (h : R (l + 1) r) : Deep C R l (.tup [.str "loop", r])
  | ask (b : PV) (h : Branches C.ws false (R l) b) : Deep C R l (.tup [.str "ask", b])
  | call (z : Str) (ps : List Str) (b : PV) (h1 : (z, ps.length) ∈ C.ds) (h2 : ps.Nodup) (h3 : ∀ z ∈ ps, z ∈ C.ws) (h : Branches C.ws false (R l) b) : Deep C R l (.tup [.str "call", .str z, .tup (ps.map .str), b])
  | use (p : PV) (d : Str) (b : PV) (h1 : Path C.ws p) (h2 : d ∈ C.ws) (h : Branches C.ws true (R l) b) : Deep C R l (.tup [.str "use", p, .str d, b])
def Word (C : RC) : Nat → Nat → PV → Prop
  | 0, l => Simple C l
  | n + 1, l => Deep C (fun l => RowOf (Word C n l)) l
def Row (C : RC) (n l : Nat) : PV → Prop := RowOf (Word C n l)
/-! ### the rows within a word -/
def third : PV → PV
  | .tup (_ :: _ :: r :: _) => r
  | _ => .non
def inner : PV → List PV
  | .tup [.str t, r] => if t = "loop" then [r] else if t = "ask" then (match r with | .tup bs => bs.map third | _ => []) else []
  | .tup [.str t, _, _, b] => if t = "call" ∨ t = "use" then (match b with | .tup bs => bs.map third | _ => []) else []
  | _ => []
def items : PV → List PV
  | .tup xs => xs
  | _ => []
/-- how many words a row has in all, n levels of rows -/
def tot : Nat → PV → Nat
  | 0, _ => 0
  | n + 1, x => (items x).length + ((items x).map fun w => ((inner w).map (tot n)).sum).sum
def allRows : Nat → PV → List PV
  | 0, _ => []
  | n + 1, x => x :: (items x).flatMap fun w => (inner w).flatMap (allRows n)
theorem inner_simple {C : RC} {l : Nat} {x : PV} (h : Simple C l x) : inner x = [] := by
  cases h with
  | holds t ps h1 => rcases h1 with rfl | rfl <;> rfl
  | name t z h1 => rcases h1 with rfl | rfl <;> rfl
  | _ => rfl
theorem third_branch {ws : List Str} {hold : Bool} {R : PV → Prop} {bs : List PV} (h : ∀ b ∈ bs, Branch ws hold R b) : ∀ r ∈ bs.map third, R r := fun r hr => by
  obtain ⟨b, hb, rfl⟩ := List.mem_map.mp hr
  obtain ⟨a, o, r, rfl, _, _, h⟩ := h b hb
  exact h
theorem inner_deep {C : RC} {R : Nat → PV → Prop} {l : Nat} {x : PV} (h : Deep C R l x) : (inner x).length ≤ 6 ∧ ∀ r ∈ inner x, ∃ l2, R l2 r := by
  have br : ∀ {hold : Bool} {bs : List PV}, bs.length ≤ 6 → (∀ b ∈ bs, Branch C.ws hold (R l) b) → (bs.map third).length ≤ 6 ∧ ∀ r ∈ bs.map third, ∃ l2, R l2 r := fun h1 h2 => ⟨by rw [List.length_map]; exact h1, fun r hr => ⟨l, third_branch h2 r hr⟩⟩
  cases h with
  | simple _ h => rw [inner_simple h]; exact ⟨by simp, fun r hr => by cases hr⟩
  | loop r h => exact ⟨by show [r].length ≤ 6; simp, fun r2 hr => by
      have hr : r2 ∈ [r] := hr
      rw [List.mem_singleton.mp hr]; exact ⟨_, h⟩⟩
  | ask b h => obtain ⟨bs, rfl, h1, _, h2⟩ := h; exact br h1 h2
  | call z ps b _ _ _ h => obtain ⟨bs, rfl, h1, _, h2⟩ := h; exact br h1 h2
  | use p d b _ _ h => obtain ⟨bs, rfl, h1, _, h2⟩ := h; exact br h1 h2
theorem inner_word {C : RC} {n l : Nat} {x : PV} (h : Word C n l x) : (inner x).length ≤ 6 ∧ ∀ r ∈ inner x, ∃ m l2, n = m + 1 ∧ Row C m l2 r := by
  cases n with
  | zero => rw [inner_simple h]; exact ⟨by simp, fun r hr => by cases hr⟩
  | succ n => exact ⟨(inner_deep h).1, fun r hr => by obtain ⟨l2, h2⟩ := (inner_deep h).2 r hr; exact ⟨n, l2, rfl, h2⟩⟩
/-! ### rows are data -/
theorem path_dd {ws : List Str} {x : PV} (h : Path ws x) : x.dat = true ∧ x.dep ≤ 1 := by
  obtain ⟨ps, rfl, _⟩ := h
  simp only [PV.dat, PV.dep, dats_strs, deps_strs, true_and]
  omega
theorem simple_dd {C : RC} {l : Nat} {x : PV} (h : Simple C l x) : x.dat = true ∧ x.dep ≤ 2 := by
  cases h with
  | out k => simp [PV.dat, PV.dats, PV.dep, PV.deps]
  | make p k h1 => have := path_dd h1; simp only [PV.dat, PV.dats, PV.dep, PV.deps, this.1, Bool.and_self, true_and]; omega
  | see z p h1 h2 => have := path_dd h2; simp only [PV.dat, PV.dats, PV.dep, PV.deps, this.1, Bool.and_self, true_and]; omega
  | move p p2 h1 h2 => have := path_dd h1; have := path_dd h2; simp only [PV.dat, PV.dats, PV.dep, PV.deps, (path_dd h1).1, (path_dd h2).1, Bool.and_self, true_and]; omega
  | leave p h1 => have := path_dd h1; simp only [PV.dat, PV.dats, PV.dep, PV.deps, this.1, Bool.and_self, true_and]; omega
  | holds t ps => simp only [PV.dat, PV.dats, PV.dep, PV.deps, dats_strs, deps_strs, Bool.and_self, true_and]; omega
  | name t z => simp [PV.dat, PV.dats, PV.dep, PV.deps]
theorem branches_dd {ws : List Str} {hold : Bool} {R : PV → Prop} {x : PV} {m : Nat} (h : Branches ws hold R x) (hR : ∀ r, R r → r.dat = true ∧ r.dep ≤ m) (hm : 1 ≤ m) : x.dat = true ∧ x.dep ≤ m + 2 := by
  obtain ⟨bs, rfl, _, _, hb⟩ := h
  have one : ∀ b ∈ bs, b.dat = true ∧ b.dep ≤ m + 1 := fun b hx => by
    obtain ⟨a, o, r, rfl, _, ho, hr⟩ := hb b hx
    have h1 := hR r hr
    have h2 : o.dat = true ∧ o.dep ≤ 1 := by
      rcases ho with rfl | ⟨_, ho⟩
      · exact ⟨rfl, Nat.zero_le _⟩
      · exact path_dd ho
    simp only [PV.dat, PV.dats, PV.dep, PV.deps, h1.1, h2.1, Bool.and_self, true_and]
    omega
  have a : PV.dats bs = true := dats_iff.mpr fun b hx => (one b hx).1
  have b : PV.deps bs ≤ m + 1 := deps_le fun b hx => (one b hx).2
  simp only [PV.dat, PV.dep, a, true_and]
  omega
theorem rowOf_dd {W : PV → Prop} {x : PV} {m : Nat} (h : RowOf W x) (hW : ∀ w, W w → w.dat = true ∧ w.dep ≤ m) : x.dat = true ∧ x.dep ≤ m + 1 := by
  obtain ⟨ws, rfl, _, hw⟩ := h
  have a : PV.dats ws = true := dats_iff.mpr fun b hx => (hW b (hw b hx)).1
  have b : PV.deps ws ≤ m := deps_le fun b hx => (hW b (hw b hx)).2
  simp only [PV.dat, PV.dep, a, true_and]
  omega
theorem word_dd {C : RC} : ∀ (n l : Nat) (x : PV), Word C n l x → x.dat = true ∧ x.dep ≤ 2 + 4 * n := by
  intro n
  induction n with
  | zero => intro l x h; exact simple_dd h
  | succ n ih =>
    intro l x h
    have hr : ∀ l r, RowOf (Word C n l) r → r.dat = true ∧ r.dep ≤ 3 + 4 * n := fun l r h => by
      have := rowOf_dd h (ih l)
      exact ⟨this.1, by omega⟩
    cases h with
    | simple _ h => have := simple_dd h; exact ⟨this.1, by omega⟩
    | loop r h => have := hr _ _ h; simp only [PV.dat, PV.dats, PV.dep, PV.deps, this.1, Bool.and_self, true_and]; omega
    | ask b h => have := branches_dd h (hr l) (by omega); simp only [PV.dat, PV.dats, PV.dep, PV.deps, this.1, Bool.and_self, true_and]; omega
    | call z ps b _ _ _ h => have := branches_dd h (hr l) (by omega); simp only [PV.dat, PV.dats, PV.dep, PV.deps, dats_strs, deps_strs, this.1, Bool.and_self, true_and]; omega
    | use p d b h1 _ h => have := branches_dd h (hr l) (by omega); have h2 := path_dd h1; simp only [PV.dat, PV.dats, PV.dep, PV.deps, h2.1, this.1, Bool.and_self, true_and]; omega
theorem row_dd {C : RC} {n l : Nat} {x : PV} (h : Row C n l x) : x.dat = true ∧ x.dep ≤ 3 + 4 * n := by
  have := rowOf_dd h (word_dd n l)
  exact ⟨this.1, by omega⟩
end
/-! Fw58: rows are drawn. -/
section
section
variable {Q : PV → Store → Prop} {E : PX → Store → Prop} {S0 : Store}
def eDf (d : Str × Nat) : PV := .tup [.str d.1, .int (d.2 : Int)]
/-- what the drawing of rows has at hand -/
structure DW (C : RC) (i a b n sp : Nat) (S : Store) : Prop where
  w : HasW i S
  sv : ∃ v : Int, 0 ≤ v ∧ S[sp]? = some (.lst [.int v])
  hk : S[a]? = some (.lst (C.ks.map .str))
  hd : S[b]? = some (.lst (C.ds.map eDf))
  hn : S[n]? = some (.lst (C.ws.map .str))
  ne1 : i ≠ sp
  ne2 : i ≠ a ∧ sp ≠ a
  ne3 : i ≠ b ∧ sp ≠ b
  ne4 : i ≠ n ∧ sp ≠ n
  k1 : 0 < C.ks.length ∧ C.ks.length ≤ 8
  d1 : C.ds.length ≤ 8 ∧ ∀ d ∈ C.ds, d.2 ≤ 8
  n1 : C.ws.length = 8
  nd : C.ws.Nodup
section
variable {C : RC} {i a b n sp : Nat} {S T : Store}
theorem DW.fr (h : DW C i a b n sp S) (F : FrM (LW i sp) S T) : DW C i a b n sp T :=
  ⟨hw2 F, hs2 F, F.of h.hk (_root_.Ev.ne2 h.ne2.1 h.ne2.2), F.of h.hd (_root_.Ev.ne2 h.ne3.1 h.ne3.2), F.of h.hn (_root_.Ev.ne2 h.ne4.1 h.ne4.2), h.ne1, h.ne2, h.ne3, h.ne4, h.k1, h.d1, h.n1, h.nd⟩
theorem DW.refl (h : DW C i a b n sp S) : FrM (LW i sp) S S := start2 h.w h.sv
theorem DW.kp (h : DW C i a b n sp S) (F : Kp S T) : FrM (LW i sp) S T := h.refl.kp F
end
end
end
/-! Fw59: words are drawn. -/
/-! Fw60: programs are drawn. -/
section
abbrev Df3 := Str × List Str × PV
structure Prog (C : RC) (bk : List Kind) (df : List Df3) (r0 : PV) (most : Nat) : Prop where
  ks : C.ks = bk.map (·.1)
  ds : C.ds = df.map fun d => (d.1, d.2.1.length)
  wn : C.ws.length = 8 ∧ C.ws.Nodup ∧ allN C.ws
  bk1 : bk ≠ [] ∧ bk.length ≤ 6 ∧ C.ks.Nodup ∧ allN C.ks
  bk2 : ∀ k ∈ bk, dKind C.ks k
  df1 : df.length ≤ 6 ∧ (df.map (·.1)).Nodup ∧ allN (df.map (·.1))
  df2 : ∀ d ∈ df, d.2.1.length ≤ 4 ∧ d.2.1.Nodup ∧ allN d.2.1 ∧ Row C 6 0 d.2.2
  rk : Row C 6 0 r0
  sum : tot 7 r0 + (df.map fun d => tot 7 d.2.2).sum ≤ most
end
/-! Fw61 -/
section
/-! ### the shape of a word -/
section
variable {Q : PV → Store → Prop} {E : PX → Store → Prop} {S0 : Store}
theorem mem_sum {α : Type} (f : α → Nat) : ∀ {l : List α} {x : α}, x ∈ l → f x ≤ (l.map f).sum
  | a :: l, x, h => by
    rw [List.map_cons, List.sum_cons]
    rcases List.mem_cons.mp h with rfl | h
    · omega
    · have := mem_sum f h; omega
end
end
/-! Fw62 -/
section
def cnt (N : Nat) (x : PV) : Nat := (allRows N x).length
end
/-! Fw63 -/
/-! Fw64: the law on words counted. -/
/-! Fw65: tuple * number, list * number. -/
section
/-! ### list * number -/
section
variable {QL : LL → Store → Prop} {E : PX → Store → Prop} {ρ : Env'} {S : Store} {la : TL} {e : TV}
end
end
/-! Fw66: places, in plain Lean; loops over range. -/
section
/-! ### loops over range -/
section
variable {tg : Tgt} {b : TSt} {ρ : Env'} {S : Store} {Q : SR → Prop}
end
/-! ### places -/
def flatP (P : List (Nat × Nat)) : List PV := P.flatMap fun p => [.int (p.1 : Int), .int (p.2 : Int)]
/-- the tuple ahead of a number -/
def aheadL (z : Str) (P : List (Nat × Nat)) : List PV := .str z :: flatP P
def pl (z : Str) (P : List (Nat × Nat)) (i : Nat) : PV := .tup (aheadL z P ++ [.int (i : Int)])
def isLoop : PV → Bool
  | .tup (.str t :: _) => t == Str.ofString "loop"
  | _ => false
def laterP (z : Str) (P : List (Nat × Nat)) (i : Nat) (ws : List PV) (aft : PV) : PV := if i + 1 < ws.length then pl z P (i + 1) else aft
/-- the row that stands P beneath r -/
def rowAt : PV → List (Nat × Nat) → Option PV
  | r, [] => some r
  | r, (a, b) :: P => ((items r)[a]?).bind fun w => ((inner w)[b]?).bind fun r' => rowAt r' P
theorem rowAt_snoc : ∀ (P : List (Nat × Nat)) (r : PV) (a b : Nat), rowAt r (P ++ [(a, b)]) = (rowAt r P).bind fun r1 => ((items r1)[a]?).bind fun w => (inner w)[b]?
  | [], r, a, b => by
    show ((items r)[a]?).bind _ = ((items r)[a]?).bind _
    congr 1
    funext w
    show ((inner w)[b]?).bind (fun r' => some r') = _
    simp
  | p :: P, r, a, b => by
    obtain ⟨c, d⟩ := p
    show ((items r)[c]?).bind _ = (((items r)[c]?).bind _).bind _
    rw [Option.bind_assoc]
    congr 1
    funext w
    rw [Option.bind_assoc]
    congr 1
    funext r'
    exact rowAt_snoc P r' a b
/-- what stands P beneath: the words, what stands behind it all, what stands behind each loop around -/
inductive At (z : Str) (r0 : PV) : List (Nat × Nat) → List PV → PV → List PV → Prop
  | top {ws : List PV} (h : r0 = .tup ws) : At z r0 [] ws (pl z [] ws.length) []
  | down {P : List (Nat × Nat)} {ws ws' : List PV} {aft w : PV} {lps : List PV} {a b : Nat} (h : At z r0 P ws aft lps) (hw : ws[a]? = some w) (hr : (inner w)[b]? = some (.tup ws')) :
      At z r0 (P ++ [(a, b)]) ws' (if isLoop w then pl z P a else laterP z P a ws aft) (if isLoop w then lps ++ [laterP z P a ws aft] else lps)
theorem At.rowAt {z : Str} {r0 : PV} {P : List (Nat × Nat)} {ws : List PV} {aft : PV} {lps : List PV} (h : At z r0 P ws aft lps) : rowAt r0 P = some (.tup ws) := by
  induction h with
  | top h => rw [h]; rfl
  | down h hw hr ih =>
    rw [rowAt_snoc, ih]
    show ((items (.tup _))[_]?).bind _ = _
    simp only [items, hw, Option.bind_some]
    exact hr
theorem rowAt_row {C : RC} : ∀ {P : List (Nat × Nat)} {n l : Nat} {r r' : PV}, Row C n l r → Ev.rowAt r P = some r' → ∃ m l', m + P.length = n ∧ Row C m l' r'
  | [], n, l, r, r', h, e => by cases e; exact ⟨n, l, by simp, h⟩
  | (a, b) :: P, n, l, r, r', h, e => by
    obtain ⟨ws, rfl, _, hw⟩ := h
    simp only [Ev.rowAt, Option.bind_eq_some_iff] at e
    obtain ⟨w, h1, r1, h2, h3⟩ := e
    have h1 : ws[a]? = some w := h1
    obtain ⟨m, l2, e, h4⟩ := (inner_word (hw w (List.mem_of_getElem? h1))).2 r1 (List.mem_of_getElem? h2)
    obtain ⟨m2, l3, h5, h6⟩ := rowAt_row h4 h3
    exact ⟨m2, l3, by simp only [List.length_cons]; omega, h6⟩
theorem At.row {C : RC} {n l : Nat} {z : Str} {r0 : PV} {P : List (Nat × Nat)} {ws : List PV} {aft : PV} {lps : List PV} (hR : Row C n l r0) (h : At z r0 P ws aft lps) : ∃ m l', m + P.length = n ∧ Row C m l' (.tup ws) := rowAt_row hR h.rowAt
/-! ### the law's own walk -/
structure Ent where
  P : List (Nat × Nat)
  i : Nat
  w : PV
  later : PV
  lps : List PV
end
/-! Fw67: row_at, word_at, behind, inside, out_of. -/
section
theorem At.nil {z : Str} {r0 : PV} {P : List (Nat × Nat)} {ws : List PV} {aft : PV} {lps : List PV} (h : At z r0 P ws aft lps) (e : P = []) : aft = pl z [] ws.length ∧ lps = [] := by
  cases h with
  | top h => exact ⟨rfl, rfl⟩
  | down h hw hr => simp at e
theorem At.pl {z : Str} {r0 : PV} {P : List (Nat × Nat)} {ws : List PV} {aft : PV} {lps : List PV} (h : At z r0 P ws aft lps) : (∃ P' i', aft = Ev.pl z P' i') ∧ ∀ x ∈ lps, ∃ P' i', x = Ev.pl z P' i' := by
  induction h with
  | top h => exact ⟨⟨_, _, rfl⟩, fun x h => by cases h⟩
  | @down P ws ws' aft w lps a b h hw hr ih =>
    have l : ∃ P' i', laterP z P a ws aft = Ev.pl z P' i' := by
      unfold laterP
      split
      · exact ⟨_, _, rfl⟩
      · exact ih.1
    refine ⟨?_, fun x hx => ?_⟩
    · split
      · exact ⟨_, _, rfl⟩
      · exact l
    · split at hx
      · rcases List.mem_append.mp hx with hx | hx
        · exact ih.2 x hx
        · rw [List.mem_singleton.mp hx]; exact l
      · exact ih.2 x hx
end
/-! Fw68: inside, out_of. -/
/-! Fw69: the law's own walk through the places. -/
section
/-- how a thing of the walk stands -/
def EntR (z : Str) (U : Store) (j n0 : Nat) (e : Ent) (v : PV) : Prop := ∃ j', v = .tup [pl z e.P e.i, e.w, e.later, .ref j'] ∧ U[j']? = some (.lst e.lps) ∧ (j' = j ∨ n0 ≤ j')
def Ents (z : Str) (U : Store) (j n0 : Nat) : List Ent → List PV → Prop
  | [], [] => True
  | e :: es, v :: vs => EntR z U j n0 e v ∧ Ents z U j n0 es vs
  | _, _ => False
section
variable {z : Str} {U T : Store} {j n0 : Nat}
theorem Ents.app : ∀ {es fs : List Ent} {vs ws : List PV}, Ents z U j n0 es vs → Ents z U j n0 fs ws → Ents z U j n0 (es ++ fs) (vs ++ ws)
  | [], _, [], _, _, h => h
  | e :: es, _, v :: vs, _, h, h2 => ⟨h.1, Ents.app h.2 h2⟩
  | [], _, _ :: _, _, h, _ => h.elim
  | _ :: _, _, [], _, h, _ => h.elim
theorem Ents.len : ∀ {es : List Ent} {vs : List PV}, Ents z U j n0 es vs → vs.length = es.length
  | [], [], _ => rfl
  | e :: es, v :: vs, h => by rw [List.length_cons, List.length_cons, Ents.len h.2]
  | [], _ :: _, h => h.elim
  | _ :: _, [], h => h.elim
theorem Ents.map {j2 n2 : Nat} : ∀ {es : List Ent} {vs : List PV}, Ents z U j n0 es vs → (∀ e v, v ∈ vs → EntR z U j n0 e v → EntR z T j2 n2 e v) → Ents z T j2 n2 es vs
  | [], [], h, _ => h
  | e :: es, v :: vs, h, g => ⟨g e v (by simp) h.1, Ents.map h.2 fun e v hv => g e v (by simp [hv])⟩
  | [], _ :: _, h, _ => h.elim
  | _ :: _, [], h, _ => h.elim
theorem Ents.mem : ∀ {es : List Ent} {vs : List PV}, Ents z U j n0 es vs → ∀ v ∈ vs, ∃ e ∈ es, EntR z U j n0 e v
  | [], [], _, v, h => by cases h
  | e :: es, v :: vs, h, v2, hv => by
    rcases List.mem_cons.mp hv with rfl | hv
    · exact ⟨e, by simp, h.1⟩
    · obtain ⟨e2, h1, h2⟩ := Ents.mem h.2 v2 hv
      exact ⟨e2, by simp [h1], h2⟩
  | [], _ :: _, h, _, _ => h.elim
  | _ :: _, [], h, _, _ => h.elim
theorem Ents.kp {es : List Ent} {vs : List PV} (k : Kp U T) (h : Ents z U j n0 es vs) : Ents z T j n0 es vs := h.map fun e v _ ⟨j', h1, h2, h3⟩ => ⟨j', h1, k.at h2, h3⟩
end
end
/-! Fw70 -/
/-! Fw71 -/
/-! Fw72: the order of data, in plain Lean. -/
section
/-! ### rows of numbers, one ahead of the other -/
def ll : List Int → List Int → Bool
  | [], [] => false
  | [], _ :: _ => true
  | _ :: _, [] => false
  | a :: as, b :: bs => if a < b then true else if b < a then false else ll as bs
theorem ll_asym : ∀ a b : List Int, ll a b = true → ll b a = false
  | [], [], h => by simp [ll] at h
  | [], _ :: _, _ => rfl
  | _ :: _, [], h => by simp [ll] at h
  | a :: as, b :: bs, h => by
    simp only [ll] at h ⊢
    by_cases h1 : a < b
    · rw [if_neg (by omega), if_pos h1]
    · rw [if_neg h1] at h
      by_cases h2 : b < a
      · rw [if_pos h2] at h; cases h
      · rw [if_neg h2] at h
        rw [if_neg h2, if_neg h1]
        exact ll_asym as bs h
theorem ll_tr : ∀ x y z : List Int, ll y x = false → ll z y = false → ll z x = false
  | [], [], [], _, _ => rfl
  | [], [], _ :: _, _, _ => rfl
  | [], _ :: _, [], _, h => by simp [ll] at h
  | [], _ :: _, _ :: _, _, _ => rfl
  | _ :: _, [], _, h, _ => by simp [ll] at h
  | _ :: _, _ :: _, [], _, h => by simp [ll] at h
  | x :: xs, y :: ys, z :: zs, h1, h2 => by
    simp only [ll] at h1 h2 ⊢
    by_cases a1 : y < x
    · rw [if_pos a1] at h1; cases h1
    rw [if_neg a1] at h1
    by_cases a2 : z < y
    · rw [if_pos a2] at h2; cases h2
    rw [if_neg a2] at h2
    rw [if_neg (by omega)]
    by_cases a3 : x < z
    · rw [if_pos a3]
    rw [if_neg a3]
    rw [if_neg (by omega)] at h1 h2
    exact ll_tr xs ys zs h1 h2
theorem ll_pre : ∀ p a b : List Int, ll (p ++ a) (p ++ b) = ll a b
  | [], _, _ => rfl
  | c :: p, a, b => by
    show (if c < c then true else if c < c then false else ll (p ++ a) (p ++ b)) = _
    rw [if_neg (Int.lt_irrefl c), if_neg (Int.lt_irrefl c)]
    exact ll_pre p a b
/-- two rows part from each other somewhere in both -/
def Diff (a b : List Int) : Prop := ∃ (p : List Int) (c d : Int) (s t : List Int), a = p ++ c :: s ∧ b = p ++ d :: t ∧ c ≠ d
theorem Diff.ll {a b : List Int} (h : Diff a b) (s t : List Int) : ll (a ++ s) (b ++ t) = Ev.ll a b := by
  obtain ⟨p, c, d, s1, t1, rfl, rfl, hn⟩ := h
  rw [List.append_assoc, List.append_assoc, ll_pre, ll_pre]
  show (if c < d then true else if d < c then false else _) = (if c < d then true else if d < c then false else _)
  by_cases h : c < d
  · rw [if_pos h, if_pos h]
  · have : d < c := by omega
    rw [if_neg h, if_neg h, if_pos this, if_pos this]
theorem Diff.app {a b : List Int} (h : Diff a b) (s t : List Int) : Diff (a ++ s) (b ++ t) := by
  obtain ⟨p, c, d, s1, t1, rfl, rfl, hn⟩ := h
  exact ⟨p, c, d, s1 ++ s, t1 ++ t, by simp, by simp, hn⟩
theorem Diff.pre {a b : List Int} (h : Diff a b) (q : List Int) : Diff (q ++ a) (q ++ b) := by
  obtain ⟨p, c, d, s1, t1, rfl, rfl, hn⟩ := h
  exact ⟨q ++ p, c, d, s1, t1, by simp, by simp, hn⟩
theorem Diff.head {c d : Int} {s t : List Int} (h : c ≠ d) : Diff (c :: s) (d :: t) := ⟨[], c, d, s, t, rfl, rfl, h⟩
/-! ### data as rows of numbers -/
mutual
def ser : PV → List Int
  | .non => [0]
  | .bl b => [1, if b then 1 else 0]
  | .int i => [2, i]
  | .str x => 3 :: (x.cps.toList.map (fun c : Nat => (c : Int)) ++ [-1])
  | .tup xs => 4 :: (sers xs ++ [-1])
  | .frl _ => [5]
  | .ref _ => [6]
def sers : List PV → List Int
  | [] => []
  | x :: xs => ser x ++ sers xs
end
mutual
/-- data that have an order: of numbers, texts, None, tuples -/
def PV.od : PV → Bool
  | .non => true
  | .int _ => true
  | .str _ => true
  | .tup xs => PV.ods xs
  | _ => false
def PV.ods : List PV → Bool
  | [] => true
  | x :: xs => PV.od x && PV.ods xs
end
theorem ods_iff {xs : List PV} : PV.ods xs = true ↔ ∀ x ∈ xs, x.od = true := by
  induction xs with
  | nil => simp [PV.ods]
  | cons x xs ih => simp [PV.ods, ih]
theorem ser_head (x : PV) : ∃ (c : Int) (s : List Int), ser x = c :: s ∧ 0 ≤ c := by
  cases x <;> simp only [ser] <;> exact ⟨_, _, rfl, by decide⟩
theorem codes_diff : ∀ a b : List Nat, a ≠ b → Diff (a.map (fun c : Nat => (c : Int)) ++ [-1]) (b.map (fun c : Nat => (c : Int)) ++ [-1])
  | [], [], h => absurd rfl h
  | [], b :: bs, _ => Diff.head (c := -1) (d := (b : Int)) (by omega)
  | a :: as, [], _ => Diff.head (c := (a : Int)) (d := -1) (by omega)
  | a :: as, b :: bs, h => by
    by_cases e : a = b
    · subst e
      exact (codes_diff as bs fun e => h (by rw [e])).pre [(a : Int)]
    · exact Diff.head (c := (a : Int)) (d := (b : Int)) (by omega)
theorem str_eq_codes {x y : Str} (h : x.cps.toList = y.cps.toList) : x = y := by
  have hc : x.cps = y.cps := Array.toList_inj.mp h
  cases x; cases y
  simp only [Str.mk.injEq]
  exact hc
mutual
theorem ser_eqv : ∀ x y : PV, x.od = true → y.od = true → (PV.eqv x y = true ∧ ser x = ser y) ∨ (PV.eqv x y = false ∧ Diff (ser x) (ser y))
  | .non, y, _, hy => by
    cases y with
    | non => exact .inl ⟨rfl, rfl⟩
    | int j => exact .inr ⟨rfl, Diff.head (by decide)⟩
    | str z => exact .inr ⟨rfl, Diff.head (by decide)⟩
    | tup ys => exact .inr ⟨rfl, Diff.head (by decide)⟩
    | _ => simp [PV.od] at hy
  | .int i, y, _, hy => by
    cases y with
    | non => exact .inr ⟨rfl, Diff.head (by decide)⟩
    | int j =>
      by_cases e : i = j
      · subst e; exact .inl ⟨by simp [PV.eqv], rfl⟩
      · exact .inr ⟨by simp [PV.eqv, e], (Diff.head e).pre [2]⟩
    | str z => exact .inr ⟨rfl, Diff.head (by decide)⟩
    | tup ys => exact .inr ⟨rfl, Diff.head (by decide)⟩
    | _ => simp [PV.od] at hy
  | .str x, y, _, hy => by
    cases y with
    | non => exact .inr ⟨rfl, Diff.head (by decide)⟩
    | int j => exact .inr ⟨rfl, Diff.head (by decide)⟩
    | str z =>
      by_cases e : x = z
      · subst e; exact .inl ⟨by simp [PV.eqv], rfl⟩
      · exact .inr ⟨by simp [PV.eqv, e], (codes_diff _ _ fun h => e (str_eq_codes h)).pre [3]⟩
    | tup ys => exact .inr ⟨rfl, Diff.head (by decide)⟩
    | _ => simp [PV.od] at hy
  | .tup xs, y, hx, hy => by
    cases y with
    | non => exact .inr ⟨rfl, Diff.head (by decide)⟩
    | int j => exact .inr ⟨rfl, Diff.head (by decide)⟩
    | str z => exact .inr ⟨rfl, Diff.head (by decide)⟩
    | tup ys =>
      rcases sers_eqv xs ys hx hy with ⟨h1, h2⟩ | ⟨h1, h2⟩
      · exact .inl ⟨h1, by simp only [ser, h2]⟩
      · exact .inr ⟨h1, h2.pre [4]⟩
    | _ => simp [PV.od] at hy
  | .bl _, _, hx, _ => by simp [PV.od] at hx
  | .frl _, _, hx, _ => by simp [PV.od] at hx
  | .ref _, _, hx, _ => by simp [PV.od] at hx
theorem sers_eqv : ∀ xs ys : List PV, PV.ods xs = true → PV.ods ys = true → (PV.eqvs xs ys = true ∧ sers xs = sers ys) ∨ (PV.eqvs xs ys = false ∧ Diff (sers xs ++ [-1]) (sers ys ++ [-1]))
  | [], [], _, _ => .inl ⟨rfl, rfl⟩
  | [], y :: ys, _, _ => by
    obtain ⟨c, s, e, h⟩ := ser_head y
    refine .inr ⟨rfl, ?_⟩
    simp only [sers, e]
    exact Diff.head (by omega)
  | x :: xs, [], _, _ => by
    obtain ⟨c, s, e, h⟩ := ser_head x
    refine .inr ⟨rfl, ?_⟩
    simp only [sers, e]
    exact Diff.head (by omega)
  | x :: xs, y :: ys, hx, hy => by
    simp only [PV.ods, Bool.and_eq_true] at hx hy
    rcases ser_eqv x y hx.1 hy.1 with ⟨h1, h2⟩ | ⟨h1, h2⟩
    · rcases sers_eqv xs ys hx.2 hy.2 with ⟨h3, h4⟩ | ⟨h3, h4⟩
      · exact .inl ⟨by simp only [PV.eqvs, h1, h3, Bool.and_self], by simp only [sers, h2, h4]⟩
      · refine .inr ⟨by simp only [PV.eqvs, h1, h3, Bool.and_false], ?_⟩
        simp only [sers, h2, List.append_assoc]
        exact h4.pre _
    · refine .inr ⟨by simp only [PV.eqvs, h1, Bool.false_and], ?_⟩
      simp only [sers, List.append_assoc]
      exact h2.app _ _
end
/-! ### set in order -/
abbrev ltS (x y : PV) : Bool := ll (ser x) (ser y)
theorem ltS_swo : SrtO.Swo ltS := ⟨fun x y => ll_asym (ser x) (ser y), fun x y z => ll_tr (ser x) (ser y) (ser z)⟩
def insO (x : PV) : List PV → List PV
  | [] => [x]
  | y :: ys => if ltS y x = true then y :: insO x ys else x :: y :: ys
def sortO : List PV → List PV
  | [] => []
  | x :: xs => insO x (sortO xs)
theorem insO_perm (x : PV) : ∀ ys, (insO x ys).Perm (x :: ys)
  | [] => List.Perm.refl _
  | y :: ys => by
    unfold insO
    split
    · exact ((insO_perm x ys).cons y).trans (List.Perm.swap x y ys)
    · exact List.Perm.refl _
theorem sortO_perm : ∀ xs, (sortO xs).Perm xs
  | [] => List.Perm.refl _
  | x :: xs => (insO_perm x _).trans ((sortO_perm xs).cons x)
theorem insO_srtd (x : PV) : ∀ ys, SrtO.Srtd ltS ys → SrtO.Srtd ltS (insO x ys)
  | [], _ => List.pairwise_singleton _ _
  | y :: ys, h => by
    unfold insO
    have hy := SrtO.srtd_head h
    have ht := (List.pairwise_cons.mp h).2
    split
    · rename_i hl
      refine List.pairwise_cons.mpr ⟨fun z hz => ?_, insO_srtd x ys ht⟩
      rcases List.mem_cons.mp ((insO_perm x ys).mem_iff.mp hz) with rfl | hz
      · exact ltS_swo.asym _ _ hl
      · exact hy z hz
    · rename_i hl
      have hl : ltS y x = false := by simpa using hl
      refine List.pairwise_cons.mpr ⟨fun z hz => ?_, h⟩
      rcases List.mem_cons.mp hz with rfl | hz
      · exact hl
      · exact ltS_swo.tr _ _ _ hl (hy z hz)
theorem sortO_srtd : ∀ xs, SrtO.Srtd ltS (sortO xs)
  | [] => List.Pairwise.nil
  | x :: xs => insO_srtd x _ (sortO_srtd xs)
theorem insO_cls (x z : PV) : ∀ ys, (insO x ys).filter (SrtO.eqv ltS z) = (x :: ys).filter (SrtO.eqv ltS z)
  | [] => rfl
  | y :: ys => by
    unfold insO
    split
    · rename_i hl
      rw [List.filter_cons, insO_cls x z ys]
      rcases SrtO.bcase (SrtO.eqv ltS z y) with h1 | h1
      · rcases SrtO.bcase (SrtO.eqv ltS z x) with h2 | h2
        · have a := SrtO.eqv_iff.mp h1
          have b := SrtO.eqv_iff.mp h2
          have := ltS_swo.ltle hl b.1
          rw [a.2] at this; cases this
        · rw [List.filter_cons, List.filter_cons, List.filter_cons, h1, h2]; simp
      · rw [List.filter_cons, List.filter_cons, List.filter_cons, h1]; simp
    · rfl
theorem sortO_stb (xs : List PV) : SrtO.Stb ltS (sortO xs) xs := by
  refine ⟨sortO_perm xs, fun z => ?_⟩
  induction xs with
  | nil => rfl
  | cons x xs ih =>
    show (insO x (sortO xs)).filter _ = _
    rw [insO_cls, List.filter_cons, List.filter_cons, ih]
theorem sortO_uniq {l m : List PV} (h1 : SrtO.Srtd ltS l) (h2 : SrtO.Stb ltS l m) : l = sortO m :=
  SrtO.stb_uniq ltS_swo h1 (sortO_srtd m) (h2.trans ⟨(sortO_stb m).perm.symm, fun z => ((sortO_stb m).cls z).symm⟩)
end
/-! Fw73: the order of data, in the model; sorted. -/
section
/-- data as they stand in the heap -/
inductive Tr (h : Heap) : PV → Value → Prop
  | non : Tr h .non .none
  | int (i : Int) (t : Tok) : Tr h (.int i) (.int i t)
  | str (x : Str) (t : Tok) (ok : PyData.strOk x = true) : Tr h (.str x) (.str x t)
  | tup {a : Addr} {xs : List PV} {its : List Value} (hi : h.IsTuple a its.toArray) (hl : its.length = xs.length) (r : ∀ (j : Nat) (x : PV) (v : Value), xs[j]? = some x → its[j]? = some v → Tr h x v) : Tr h (.tup xs) (.ref a)
theorem IsTuple.inj {h : Heap} {a : Addr} {xs ys : Array Value} (h1 : h.IsTuple a xs) (h2 : h.IsTuple a ys) : xs = ys := by
  obtain ⟨o, e, _, n, d⟩ := h1
  obtain ⟨o2, e2, _, n2, d2⟩ := h2
  rw [e] at e2
  cases e2
  rw [d] at d2
  cases d2
  rfl
theorem Tr.inj {h : Heap} {x : PV} {v : Value} (t : Tr h x v) : ∀ {y : PV}, Tr h y v → x = y := by
  induction t with
  | non => intro y t; cases t; rfl
  | int i t => intro y t; cases t; rfl
  | str x t ok => intro y t; cases t; rfl
  | @tup a xs its hi hl r ih =>
    intro y t
    cases t with
    | @tup _ ys its2 hi2 hl2 r2 =>
      have e : its = its2 := by have := IsTuple.inj hi hi2; simpa using this
      subst e
      congr 1
      refine List.ext_getElem? fun j => ?_
      by_cases hj : j < xs.length
      · have hx := List.getElem?_eq_getElem hj
        have hj2 : j < ys.length := by omega
        have hy := List.getElem?_eq_getElem hj2
        have hv := List.getElem?_eq_getElem (show j < its.length by omega)
        rw [hx, hy, ih j _ _ hx hv (r2 j _ _ hy hv)]
      · rw [List.getElem?_eq_none_iff.mpr (by omega), List.getElem?_eq_none_iff.mpr (by omega)]
theorem Tr.keep {h h' : Heap} (k : ∀ b o, h.get? b = some o → o.cls = .type "tuple" → h'.get? b = some o) {x : PV} {v : Value} (t : Tr h x v) : Tr h' x v := by
  induction t with
  | non => exact .non
  | int i t => exact .int i t
  | str x t ok => exact .str x t ok
  | @tup a xs its hi hl r ih =>
    obtain ⟨o, e, c, n, d⟩ := hi
    exact .tup ⟨o, k a o e c, c, n, d⟩ hl ih
theorem reads_all {h : Heap} : ∀ {xs : List PV} {its : List Value}, its.length = xs.length → (∀ (j : Nat) (x : PV) (v : Value), xs[j]? = some x → its[j]? = some v → (∃ as, Reads h v x.pd as) ∧ x.pd.canLay0 = true) → (∃ as, ReadsAll h its (PV.pds xs) as) ∧ PyData.canLayAll0 (PV.pds xs) = true
  | [], [], _, _ => ⟨⟨_, .nil⟩, rfl⟩
  | [], _ :: _, e, _ => by simp at e
  | _ :: _, [], e, _ => by simp at e
  | x :: xs, v :: its, e, r => by
    obtain ⟨⟨as, h1⟩, c1⟩ := r 0 x v rfl rfl
    obtain ⟨⟨bs, h2⟩, c2⟩ := reads_all (xs := xs) (its := its) (by simpa using e) fun j x v a b => r (j + 1) x v (by simpa using a) (by simpa using b)
    exact ⟨⟨_, .cons h1 h2⟩, by simp only [PV.pds, PyData.canLayAll0, c1, c2, Bool.and_self]⟩
theorem Tr.reads {h : Heap} {x : PV} {v : Value} (t : Tr h x v) : (∃ as, Reads h v x.pd as) ∧ x.pd.canLay0 = true := by
  induction t with
  | non => exact ⟨⟨_, .none⟩, rfl⟩
  | int i t => exact ⟨⟨_, .int i t⟩, rfl⟩
  | str x t ok => exact ⟨⟨_, .str x t⟩, ok⟩
  | @tup a xs its hi hl r ih =>
    obtain ⟨⟨as, h1⟩, c1⟩ := reads_all hl ih
    obtain ⟨o, e, c, n, d⟩ := hi
    exact ⟨⟨_, .tuple e c d (by simpa using h1)⟩, c1⟩
section
variable {K : PySem.W.Frag} {μ : List Addr} {X : Cx} {H : Hp} {s : Shared} {σ : L2.St} {pins : List (Addr × Obj)}
mutual
theorem RV.tr (I : Inv X pins σ H s) : ∀ {x : PV} {v : V} {u : Value}, RV X.K μ H x v → x.od = true → RelV v u → Tr s.heap x u
  | _, _, _, .non, _, r => by cases r; exact .non
  | _, _, _, .bl b, h, _ => by simp [PV.od] at h
  | _, _, _, .int i, _, r => by obtain ⟨t, rfl⟩ := r; exact .int i t
  | _, _, _, .str x hx, _, r => by obtain ⟨t, rfl⟩ := r; exact .str x t hx.2
  | _, _, _, .tup (xs := xs) (vs := vs) sq l rs, h, r => by
    cases r
    obtain ⟨its, rv, ht, _⟩ := I.tuple sq.sq
    have h1 := rs.length
    have h2 := rv.length
    exact .tup ht (by omega) (RVs.tr I rs h rv)
  | _, _, _, .frl _ _ _, h, _ => by simp [PV.od] at h
  | _, _, _, .ref _, h, _ => by simp [PV.od] at h
theorem RVs.tr (I : Inv X pins σ H s) : ∀ {xs : List PV} {vs : List V} {us : List Value}, RVs X.K μ H xs vs → PV.ods xs = true → Vals vs us → ∀ (j : Nat) (x : PV) (u : Value), xs[j]? = some x → us[j]? = some u → Tr s.heap x u
  | _, _, _, .nil, _, _, j, x, u, e, _ => by simp at e
  | _, _, _, .cons h t, o, .cons r rs, 0, x, u, e, e2 => by
    simp only [PV.ods, Bool.and_eq_true] at o
    simp at e e2
    subst e e2
    exact RV.tr I h o.1 r
  | _, _, _, .cons h t, o, .cons r rs, j + 1, x, u, e, e2 => by
    simp only [PV.ods, Bool.and_eq_true] at o
    exact RVs.tr I t o.2 rs j x u (by simpa using e) (by simpa using e2)
end
end
end
/-! Fw74: sorted. -/
/-! Fw75: sorted, as a rule. -/
section
open Classical in
/-! ### sorted of a tuple -/
end
/-! Fw76: the places of a row, in order. -/
section
/-! ### the numbers of the places -/
/-- numbers as they are set in order -/
def code (ns : List Int) : List Int := (ns.flatMap fun n => [2, n]) ++ [-1]
/-! ### places_in -/
end
/-! Fw77: the law on places told. -/
/-! Fw78 -/
section
/-- a deck: numbers, two at the least -/
def isDk (o : PObj) : Prop := ∃ (a b : Int) (l : List Int), o = .lst ((a :: b :: l).map .int) ∧ l.length ≤ 63
theorem isDk.low {o : PObj} (n : Nat) (h : isDk o) : o.low n = true := by
  obtain ⟨a, b, l, rfl, _⟩ := h
  exact lows_iff.mpr fun x hx => by
    obtain ⟨i, _, rfl⟩ := List.mem_map.mp hx; rfl
def HasK (i : Nat) (S : Store) : Prop := ∃ o, S[i]? = some o ∧ isDk o
theorem HasK.lt {i : Nat} {S : Store} (h : HasK i S) : i < S.length := by obtain ⟨o, e, _⟩ := h; exact lt_of_get e
end
/-! Fw79: numbers and names of the laws on standings. -/
section
section
variable {Q : PV → Store → Prop} {E : PX → Store → Prop} {S0 : Store}
theorem HasK.fr {i : Nat} {S U : Store} (F : Fr isDk i S U) : HasK i U := F.own
end
end
/-! Fw80 -/
/-! Fw81 -/
/-! Fw82: standings; room. -/
section
def ePa (ps : List Str) : PV := .tup (ps.map .str)
abbrev Hold := List Str × Str × Str
abbrev Look := Str × List Str
def eHo (h : Hold) : PV := .tup [ePa h.1, .str h.2.1, .str h.2.2]
def eLo (l : Look) : PV := .tup [.str l.1, ePa l.2]
/-- whether a path begins with another one -/
def ben (a b : List Str) : Bool := a.take b.length == b
theorem dd_Pa (ps : List Str) : (ePa ps).dat = true ∧ (ePa ps).dep ≤ 1 := ⟨dats_strs ps, by show PV.deps _ + 1 ≤ 1; rw [deps_strs]; omega⟩
/-- whether there is room for a path -/
def roomS (hs : List Hold) (ls : List Look) (p : List Str) : Bool := !(ls.any fun l => some l.1 == p.head?) && !(hs.any fun h => ben h.1 p || ben p h.1)
theorem od_strs (l : List Str) : PV.ods (l.map .str) = true := ods_iff.mpr fun x hx => by obtain ⟨z, _, rfl⟩ := List.mem_map.mp hx; rfl
theorem od_Ho (h : Hold) : (eHo h).od = true := by simp [eHo, ePa, PV.od, PV.ods, od_strs]
section
variable {Q : PV → Store → Prop} {E : PX → Store → Prop} {S0 : Store}
theorem eqS_Pa (a b : List Str) : eqS S0 (ePa a) (ePa b) = some (a == b) := eq_tups a b
end
end
/-! Fw83: standings are drawn. -/
section
structure SdOk (bk : List Kind) (pool : List Str) (hs : List Hold) (ls : List Look) : Prop where
  hold : ∀ h ∈ hs, (1 ≤ h.1.length ∧ h.1.length ≤ 3 ∧ ∀ z ∈ h.1, z ∈ pool) ∧ ∃ k ∈ bk, k.1 = h.2.1 ∧ h.2.2 ∈ k.2.map (·.1)
  apart : hs.Pairwise fun a b => ben a.1 b.1 = false ∧ ben b.1 a.1 = false
  srt : SrtO.Srtd ltS (hs.map eHo)
  look : ∀ l ∈ ls, l.1 ∈ pool ∧ ∃ h ∈ hs, h.1 = l.2
  lnd : (ls.map (·.1)).Nodup
  lapart : ∀ l ∈ ls, ∀ h ∈ hs, ben h.1 [l.1] = false ∧ ben [l.1] h.1 = false
  lsrt : SrtO.Srtd ltS (ls.map eLo)
theorem room_no {hs : List Hold} {ls : List Look} {p : List Str} (h : roomS hs ls p = true) : (∀ l ∈ ls, some l.1 ≠ p.head?) ∧ ∀ a ∈ hs, ben a.1 p = false ∧ ben p a.1 = false := by
  unfold roomS at h
  simp only [Bool.and_eq_true, Bool.not_eq_true', List.any_eq_false, Bool.or_eq_true, not_or, Bool.not_eq_true, beq_iff_eq] at h
  exact ⟨fun l hl => by have := h.1 l hl; simpa using this, fun a ha => h.2 a ha⟩
theorem SdOk.nil (bk : List Kind) (pool : List Str) : SdOk bk pool [] [] := ⟨(fun _ h => by cases h), List.Pairwise.nil, List.Pairwise.nil, (fun _ h => by cases h), List.nodup_nil, (fun _ h => by cases h), List.Pairwise.nil⟩
end
/-! Fw84 -/
/-! Fw85: the law on what is held, and on room. -/
/-! Fw86: paths of standings; the law on what is held. -/
/-! Fw87: join of a tuple, str, strip. -/
/-! Fw88: texts: how long, how they end; texts of rows in plain Lean. -/
section
/-! ### texts -/
theorem tl_len (z : Str) : z.length = (TL.tl z).length := TL.len_tl z
theorem app_len (a b : Str) : (a ++ b).length = a.length + b.length := by rw [tl_len, TL.tl_append, List.length_append, ← tl_len, ← tl_len]
/-- a text of at most n signs -/
def Tx (n : Nat) (z : Str) : Prop := z.length ≤ n ∧ ∀ c ∈ TL.tl z, c < 1114112
theorem Tx.mono {n m : Nat} {z : Str} (h : Tx n z) (hn : n ≤ m) : Tx m z := ⟨Nat.le_trans h.1 hn, h.2⟩
theorem Tx.app {n m : Nat} {a b : Str} (ha : Tx n a) (hb : Tx m b) : Tx (n + m) (a ++ b) := by
  refine ⟨by rw [app_len]; have := ha.1; have := hb.1; omega, fun c hc => ?_⟩
  rw [TL.tl_append] at hc
  rcases List.mem_append.mp hc with hc | hc
  · exact ha.2 c hc
  · exact hb.2 c hc
theorem Tx.lit {n : Nat} {z : Str} (h : (decide (z.length ≤ n) && z.cps.toList.all fun c => decide (c < 1114112)) = true) : Tx n z := by
  rw [Bool.and_eq_true, decide_eq_true_eq, List.all_eq_true] at h
  exact ⟨h.1, fun c hc => by simpa using h.2 c hc⟩
theorem Tx.ok {n : Nat} {z : Str} (h : Tx n z) (hn : n ≤ 16777216) : SOk z := by
  obtain ⟨a, rfl⟩ := S_ex z
  exact SOk_S.mpr ⟨by have := h.1; rw [S_len] at this; rw [sizeLine_eq]; omega, h.2⟩
theorem Tx.emp : Tx 0 Str.empty := ⟨Nat.le_refl _, fun c hc => by cases hc⟩
theorem join_len (sep : Str) : ∀ l : List Str, (Str.join sep l).length ≤ (l.map (·.length)).sum + (l.length - 1) * sep.length
  | [] => Nat.zero_le _
  | [x] => by show x.length ≤ _; simp
  | x :: y :: l => by
    have ih := join_len sep (y :: l)
    show (x ++ sep ++ Str.join sep (y :: l)).length ≤ _
    rw [app_len, app_len]
    simp only [List.map_cons, List.sum_cons, List.length_cons, Nat.add_sub_cancel] at ih ⊢
    rw [Nat.succ_mul]
    omega
theorem join_pts {sep : Str} {c : Nat} : ∀ {l : List Str}, c ∈ TL.tl (Str.join sep l) → c ∈ TL.tl sep ∨ ∃ z ∈ l, c ∈ TL.tl z
  | [], h => by cases h
  | [x], h => .inr ⟨x, by simp, h⟩
  | x :: y :: l, h => by
    have h : c ∈ TL.tl (x ++ sep ++ Str.join sep (y :: l)) := h
    rw [TL.tl_append, TL.tl_append] at h
    rcases List.mem_append.mp h with h | h
    · rcases List.mem_append.mp h with h | h
      · exact .inr ⟨x, by simp, h⟩
      · exact .inl h
    · rcases join_pts h with h | ⟨z, h1, h2⟩
      · exact .inl h
      · exact .inr ⟨z, by simp [h1], h2⟩
theorem Tx.join {α : Type} {sep : Str} {m : Nat} {f : α → Str} {g : α → Nat} (hs : Tx m sep) : ∀ {l : List α}, (∀ a ∈ l, Tx (g a) (f a)) → Tx (l.map fun a => g a + m).sum (Str.join sep (l.map f)) := by
  intro l h
  refine ⟨?_, fun c hc => ?_⟩
  · have a := join_len sep (l.map f)
    rw [List.length_map] at a
    have b : ((l.map f).map (·.length)).sum + l.length * m ≤ (l.map fun a => g a + m).sum := by
      clear a
      induction l with
      | nil => simp
      | cons x l ih =>
        have := ih fun a ha => h a (by simp [ha])
        have := (h x (by simp)).1
        simp only [List.map_cons, List.sum_cons, List.length_cons, Nat.succ_mul]
        omega
    have c : (l.length - 1) * sep.length ≤ l.length * m := Nat.mul_le_mul (by omega) hs.1
    omega
  · rcases join_pts hc with hc | ⟨z, hz, hc⟩
    · exact hs.2 c hc
    · obtain ⟨a, ha, rfl⟩ := List.mem_map.mp hz
      exact (h a ha).2 c hc
/-- it ends in no blank -/
def Nb (z : Str) : Prop := ∃ t c, TL.tl z = t ++ [c] ∧ c ≠ 32
theorem Nb.app {b : Str} (a : Str) (h : Nb b) : Nb (a ++ b) := by
  obtain ⟨t, c, e, h⟩ := h
  exact ⟨TL.tl a ++ t, c, by rw [TL.tl_append, e, List.append_assoc], h⟩
theorem Nb.join {sep : Str} : ∀ {l : List Str}, l ≠ [] → (∀ z ∈ l, Nb z) → Nb (Str.join sep l)
  | [], h, _ => absurd rfl h
  | [x], _, h => h x (by simp)
  | x :: y :: l, _, h => Nb.app _ (Nb.join (l := y :: l) (by simp) fun z hz => h z (by simp [hz]))
theorem Nb.ne {z : Str} (h : Nb z) : z ≠ Str.empty := by
  obtain ⟨t, c, e, _⟩ := h
  rintro rfl
  have := congrArg List.length e
  simp at this
  exact absurd this (by show (0 : Nat) ≠ _; omega)
def nbB (z : Str) : Bool := match z.cps.toList.getLast? with
  | some c => c != 32
  | none => false
theorem Nb.lit {z : Str} (h : nbB z = true) : Nb z := by
  unfold nbB at h
  split at h
  · rename_i c e
    obtain ⟨t, e⟩ := List.getLast?_eq_some_iff.mp e
    exact ⟨t, c, e, by simpa using h⟩
  · cases h
theorem nm_tx {z : Str} (h : nm (.str z) = true) : Tx 8 z ∧ Nb z ∧ 0 < z.length ∧ ∀ c ∈ TL.tl z, c ≠ 32 := by
  simp only [nm, nmS, Bool.and_eq_true, decide_eq_true_eq, List.all_eq_true] at h
  obtain ⟨h1, h2, _, h3⟩ := h
  have lt : ∀ c ∈ TL.tl z, isLt c := fun c hc => mem_lt26.mp (h3 c hc)
  have n32 : ∀ c ∈ TL.tl z, c ≠ 32 := fun c hc => by have := (lt c hc).1; omega
  refine ⟨⟨h2, fun c hc => by have := (lt c hc).2; omega⟩, ?_, h1, n32⟩
  rw [tl_len] at h1
  rcases List.eq_nil_or_concat (TL.tl z) with e | ⟨t, c, e⟩
  · rw [e] at h1; simp at h1
  · rw [List.concat_eq_append] at e
    exact ⟨t, c, e, n32 c (by rw [e]; simp)⟩
theorem sum_leK {α : Type} {f : α → Nat} {k : Nat} : ∀ {l : List α}, (∀ a ∈ l, f a ≤ k) → (l.map f).sum ≤ l.length * k
  | [], _ => Nat.zero_le _
  | a :: l, h => by
    have := sum_leK (l := l) fun b hb => h b (by simp [hb])
    have := h a (by simp)
    simp only [List.map_cons, List.sum_cons, List.length_cons, Nat.succ_mul]
    omega
theorem names_tx {ps : List Str} {sep : Str} (h : allN ps) (hs : Tx 1 sep) : Tx (ps.length * 9) (Str.join sep ps) := by
  have := Tx.join (f := _root_.id) (g := fun _ => 8) hs (l := ps) fun a ha => (nm_tx (h a ha)).1
  rw [List.map_id] at this
  exact this.mono (Nat.le_trans (sum_leK (k := 9) fun _ _ => Nat.le_refl _) (Nat.le_refl _))
/-! ### texts of rows -/
def strL : List PV → List Str
  | [] => []
  | .str z :: xs => z :: strL xs
  | _ :: xs => strL xs
theorem strL_map : ∀ l : List Str, strL (l.map .str) = l
  | [] => rfl
  | a :: l => congrArg (a :: ·) (strL_map l)
def partT : PV → Str
  | .str z => z
  | .int i => (toString i : String)
  | .tup xs => Str.join "." (strL xs)
  | _ => Str.empty
def namesT : PV → Str
  | .tup xs => Str.join " " ("(" :: (strL xs ++ [Str.ofString ")"]))
  | _ => Str.empty
def blockT (z : Str) : Str := if z = Str.empty then "{ }" else "{ " ++ z ++ " }"
def asT : PV → Str
  | .tup xs => " as " ++ Str.join "." (strL xs)
  | _ => Str.empty
def tailT (R : PV → Str) (r : PV) : Str := if items r = [] then Str.empty else " " ++ R r
def branchT (R : PV → Str) : PV → Str
  | .tup [.str a, o, r] => a ++ asT o ++ " :" ++ tailT R r
  | _ => Str.empty
def branchesT (R : PV → Str) : PV → Str
  | .tup bs => blockT (Str.join " | " (bs.map (branchT R)))
  | _ => Str.empty
def wordT (R : PV → Str) : PV → Str
  | .tup [.str t, x] => if t = "loop" then "loop " ++ blockT (R x) else if t = "ask" then "ask " ++ branchesT R x else if t = "fit" ∨ t = "bare" then t ++ " " ++ namesT x else t ++ " " ++ partT x
  | .tup [.str t, x, y] => t ++ " " ++ partT x ++ " " ++ partT y
  | .tup [.str t, x, y, b] => t ++ " " ++ partT x ++ " " ++ (if t = "call" then namesT y else partT y) ++ " " ++ branchesT R b
  | _ => Str.empty
def rowT : Nat → PV → Str
  | 0, _ => Str.empty
  | n + 1, x => Str.join " " ((items x).map (wordT (rowT n)))
/-- the names of a program are names -/
structure CN (C : RC) : Prop where
  ws : allN C.ws
  ks : allN C.ks
  ds : ∀ d ∈ C.ds, nm (.str d.1) = true ∧ d.2 ≤ 4
theorem block_tx {n : Nat} {z : Str} (h : Tx n z) : Tx (n + 4) (blockT z) ∧ Nb (blockT z) := by
  unfold blockT
  split
  · exact ⟨(Tx.lit (n := 3) (by decide +kernel)).mono (by omega), Nb.lit (by decide +kernel)⟩
  · exact ⟨(((Tx.lit (n := 2) (by decide +kernel)).app h).app (Tx.lit (n := 2) (by decide +kernel))).mono (by omega), Nb.app _ (Nb.lit (by decide +kernel))⟩
theorem path_tx {ws : List Str} {p : PV} (hw : allN ws) (h : Path ws p) : Tx 27 (partT p) ∧ Nb (partT p) ∧ ∃ ps : List Str, p = .tup (ps.map .str) ∧ partT p = Str.join "." ps ∧ allN ps ∧ 0 < ps.length ∧ ps.length ≤ 3 := by
  obtain ⟨ps, rfl, h0, h3, hm⟩ := h
  have hn : allN ps := fun z hz => hw z (hm z hz)
  have e : partT (.tup (ps.map .str)) = Str.join "." ps := by show Str.join "." (strL _) = _; rw [strL_map]
  rw [e]
  exact ⟨(names_tx hn (Tx.lit (by decide +kernel))).mono (by omega), Nb.join (List.ne_nil_of_length_pos h0) fun z hz => (nm_tx (hn z hz)).2.1, ps, rfl, rfl, hn, h0, h3⟩
theorem namesT_tx {ps : List Str} (h : allN ps) (hl : ps.length ≤ 6) : Tx 60 (namesT (.tup (ps.map .str))) ∧ Nb (namesT (.tup (ps.map .str))) := by
  show Tx 60 (Str.join " " ("(" :: (strL _ ++ [Str.ofString ")"]))) ∧ Nb (Str.join " " ("(" :: (strL _ ++ [Str.ofString ")"])))
  rw [strL_map]
  refine ⟨?_, ?_⟩
  · have := Tx.join (f := _root_.id) (g := fun z : Str => z.length) (sep := " ") (m := 1) (Tx.lit (by decide +kernel)) (l := "(" :: (ps ++ [Str.ofString ")"])) fun a ha => by
      refine ⟨Nat.le_refl _, ?_⟩
      rcases List.mem_cons.mp ha with rfl | ha
      · exact (Tx.lit (n := 1) (by decide +kernel)).2
      · rcases List.mem_append.mp ha with ha | ha
        · exact (nm_tx (h a ha)).1.2
        · rw [List.mem_singleton.mp ha]; exact (Tx.lit (n := 1) (by decide +kernel)).2
    rw [List.map_id] at this
    refine this.mono ?_
    rw [List.map_cons, List.sum_cons, List.map_append, List.sum_append]
    have a : (ps.map fun z : Str => z.length + 1).sum ≤ ps.length * 9 := sum_leK fun z hz => by have := (nm_tx (h z hz)).1.1; omega
    have b : Str.length "(" = 1 := rfl
    have c : Str.length (Str.ofString ")") = 1 := rfl
    simp only [List.map_cons, List.map_nil, List.sum_cons, List.sum_nil]
    omega
  · have : ∀ (l : List Str), Nb (Str.join " " (l ++ [Str.ofString ")"])) := by
      intro l
      induction l with
      | nil => exact Nb.lit (by decide +kernel)
      | cons a l ih =>
        cases l with
        | nil => exact Nb.app _ (Nb.lit (by decide +kernel))
        | cons b l => exact Nb.app _ ih
    exact this ("(" :: ps)
/-- a row's text is well -/
def RT (R : PV → Str) (T : PV → Nat) (r : PV) : Prop := Tx (501 * T r) (R r) ∧ (items r = [] → R r = Str.empty) ∧ (items r ≠ [] → Nb (R r))
theorem branch_tx {ws : List Str} {hold : Bool} {P : PV → Prop} {R : PV → Str} {T : PV → Nat} {b : PV} (hw : allN ws) (h : Branch ws hold P b) (hR : ∀ r, P r → RT R T r) : Tx (44 + 501 * T (third b)) (branchT R b) ∧ Nb (branchT R b) := by
  obtain ⟨a, o, r, rfl, ha, ho, hr⟩ := h
  have hr := hR r hr
  have na := nm_tx (hw a ha)
  have oT : Tx 31 (asT o) := by
    rcases ho with rfl | ⟨_, ho⟩
    · exact Tx.emp.mono (by omega)
    · obtain ⟨_, _, ps, rfl, e, hn, _, h3⟩ := path_tx hw ho
      exact ((Tx.lit (n := 4) (by decide +kernel)).app (b := partT (.tup (ps.map .str))) (path_tx hw ho).1).mono (by omega)
  show Tx (44 + 501 * T r) (a ++ asT o ++ " :" ++ tailT R r) ∧ Nb (a ++ asT o ++ " :" ++ tailT R r)
  unfold tailT
  split
  · rename_i he
    exact ⟨(((na.1.app oT).app (Tx.lit (n := 2) (by decide +kernel))).app Tx.emp).mono (by omega), by
      rw [show ∀ x : Str, x ++ Str.empty = x from fun x => TL.ext_tl (by rw [TL.tl_append]; exact List.append_nil _)]
      exact Nb.app _ (Nb.lit (by decide +kernel))⟩
  · rename_i he
    exact ⟨(((na.1.app oT).app (Tx.lit (n := 2) (by decide +kernel))).app ((Tx.lit (n := 1) (by decide +kernel)).app hr.1)).mono (by omega), Nb.app _ (Nb.app _ (hr.2.2 he))⟩
theorem branches_tx {ws : List Str} {hold : Bool} {P : PV → Prop} {R : PV → Str} {T : PV → Nat} {bs : List PV} (hw : allN ws) (h : Branches ws hold P (.tup bs)) (hR : ∀ r, P r → RT R T r) : Tx (290 + 501 * ((bs.map third).map T).sum) (branchesT R (.tup bs)) ∧ Nb (branchesT R (.tup bs)) := by
  obtain ⟨bs', e, h6, _, hb⟩ := h
  cases e
  have j := Tx.join (f := branchT R) (g := fun b => 44 + 501 * T (third b)) (sep := " | ") (m := 3) (Tx.lit (by decide +kernel)) (l := bs) fun b hx => (branch_tx hw (hb b hx) hR).1
  have e : ∀ l : List PV, (l.map fun b => 44 + 501 * T (third b) + 3).sum = l.length * 47 + 501 * ((l.map third).map T).sum := by
    intro l
    induction l with
    | nil => rfl
    | cons a l ih => simp only [List.map_cons, List.sum_cons, List.length_cons, ih]; omega
  rw [e] at j
  have := block_tx j
  exact ⟨this.1.mono (by omega), this.2⟩
theorem digits : ∀ k < 21, (decide (Str.length (toString ((k : Nat) : Int) : String) ≤ 2) && (Str.cps (toString ((k : Nat) : Int) : String)).toList.all fun c => decide (c < 1114112)) = true ∧ nbB (toString ((k : Nat) : Int) : String) = true := by decide +kernel
theorem simple_tx {C : RC} {l : Nat} {x : PV} {R : PV → Str} (hC : CN C) (hl : l ≤ 20) (h : Simple C l x) : Tx 80 (wordT R x) ∧ Nb (wordT R x) := by
  cases h with
  | out k h1 h2 =>
    have d := digits k (by omega)
    exact ⟨(((Tx.lit (n := 3) (by decide +kernel)).app (Tx.lit (n := 1) (by decide +kernel))).app (Tx.lit (n := 2) d.1)).mono (by omega), Nb.app _ (Nb.lit d.2)⟩
  | make p k h1 h2 =>
    have a := path_tx hC.ws h1
    have b := nm_tx (hC.ks k h2)
    exact ⟨(((((Tx.lit (n := 4) (by decide +kernel)).app (Tx.lit (n := 1) (by decide +kernel))).app a.1).app (Tx.lit (n := 1) (by decide +kernel))).app b.1).mono (by omega), Nb.app _ b.2.1⟩
  | see z p h1 h2 =>
    have a := path_tx hC.ws h2
    have b := nm_tx (hC.ws z h1)
    exact ⟨(((((Tx.lit (n := 3) (by decide +kernel)).app (Tx.lit (n := 1) (by decide +kernel))).app b.1).app (Tx.lit (n := 1) (by decide +kernel))).app a.1).mono (by omega), Nb.app _ a.2.1⟩
  | move p p2 h1 h2 =>
    have a := path_tx hC.ws h1
    have b := path_tx hC.ws h2
    exact ⟨(((((Tx.lit (n := 4) (by decide +kernel)).app (Tx.lit (n := 1) (by decide +kernel))).app a.1).app (Tx.lit (n := 1) (by decide +kernel))).app b.1).mono (by omega), Nb.app _ b.2.1⟩
  | leave p h1 =>
    have a := path_tx hC.ws h1
    exact ⟨(((Tx.lit (n := 5) (by decide +kernel)).app (Tx.lit (n := 1) (by decide +kernel))).app a.1).mono (by omega), Nb.app _ a.2.1⟩
  | holds t ps h1 h2 h3 h4 =>
    have a := namesT_tx (fun z hz => hC.ws z (h4 z hz)) h2
    rcases h1 with rfl | rfl
    · exact ⟨(((Tx.lit (n := 3) (by decide +kernel)).app (Tx.lit (n := 1) (by decide +kernel))).app a.1).mono (by omega), Nb.app _ a.2⟩
    · exact ⟨(((Tx.lit (n := 4) (by decide +kernel)).app (Tx.lit (n := 1) (by decide +kernel))).app a.1).mono (by omega), Nb.app _ a.2⟩
  | name t z h1 h2 =>
    have a := nm_tx (hC.ws z h2)
    rcases h1 with rfl | rfl
    · exact ⟨(((Tx.lit (n := 5) (by decide +kernel)).app (Tx.lit (n := 1) (by decide +kernel))).app a.1).mono (by omega), Nb.app _ a.2.1⟩
    · exact ⟨(((Tx.lit (n := 4) (by decide +kernel)).app (Tx.lit (n := 1) (by decide +kernel))).app a.1).mono (by omega), Nb.app _ a.2.1⟩
theorem deep_tx {C : RC} {l : Nat} {x : PV} {P : Nat → PV → Prop} {R : PV → Str} {T : PV → Nat} (hC : CN C) (hl : l ≤ 20) (h : Deep C P l x) (hR : ∀ r, P l r ∨ P (l + 1) r → RT R T r) : Tx (500 + 501 * ((inner x).map T).sum) (wordT R x) ∧ Nb (wordT R x) := by
  cases h with
  | simple _ h => have := simple_tx (R := R) hC hl h; exact ⟨this.1.mono (by omega), this.2⟩
  | loop r h =>
    have a := block_tx (hR r (.inr h)).1
    have e : ((inner (.tup [.str "loop", r])).map T).sum = T r := by show ([r].map T).sum = _; simp
    rw [e]
    exact ⟨((Tx.lit (n := 5) (by decide +kernel)).app a.1).mono (by omega), Nb.app _ a.2⟩
  | ask b h =>
    obtain ⟨bs, rfl, _⟩ := id h
    have a := branches_tx hC.ws h fun r hr => hR r (.inl hr)
    exact ⟨((Tx.lit (n := 4) (by decide +kernel)).app a.1).mono (by show _ ≤ 500 + 501 * ((bs.map third).map T).sum; omega), Nb.app _ a.2⟩
  | call z ps b h1 h2 h3 h =>
    obtain ⟨bs, rfl, _⟩ := id h
    have a := branches_tx hC.ws h fun r hr => hR r (.inl hr)
    have nz := nm_tx (hC.ds _ h1).1
    have np := namesT_tx (fun z hz => hC.ws z (h3 z hz)) (show ps.length ≤ 6 by have := (hC.ds _ h1).2; dsimp only at this; omega)
    exact ⟨(((((((Tx.lit (n := 4) (by decide +kernel)).app (Tx.lit (n := 1) (by decide +kernel))).app nz.1).app (Tx.lit (n := 1) (by decide +kernel))).app np.1).app (Tx.lit (n := 1) (by decide +kernel))).app a.1).mono (by show _ ≤ 500 + 501 * ((bs.map third).map T).sum; omega), Nb.app _ a.2⟩
  | use p d b h1 h2 h =>
    obtain ⟨bs, rfl, _⟩ := id h
    have a := branches_tx hC.ws h fun r hr => hR r (.inl hr)
    have nz := path_tx hC.ws h1
    have np := nm_tx (hC.ws d h2)
    exact ⟨(((((((Tx.lit (n := 3) (by decide +kernel)).app (Tx.lit (n := 1) (by decide +kernel))).app nz.1).app (Tx.lit (n := 1) (by decide +kernel))).app np.1).app (Tx.lit (n := 1) (by decide +kernel))).app a.1).mono (by show _ ≤ 500 + 501 * ((bs.map third).map T).sum; omega), Nb.app _ a.2⟩
theorem rowOf_tx {W : PV → Prop} {R : PV → Str} {T : PV → Nat} {n : Nat} {x : PV} (h : RowOf W x) (hW : ∀ w, W w → Tx (500 + 501 * ((inner w).map (tot n)).sum) (wordT (rowT n) w) ∧ Nb (wordT (rowT n) w)) : RT (rowT (n + 1)) (tot (n + 1)) x := by
  obtain ⟨ws, rfl, _, hw⟩ := h
  refine ⟨?_, fun e => ?_, fun e => ?_⟩
  · have j := Tx.join (f := wordT (rowT n)) (g := fun w => 500 + 501 * ((inner w).map (tot n)).sum) (sep := " ") (m := 1) (Tx.lit (by decide +kernel)) (l := ws) fun w hx => (hW w (hw w hx)).1
    refine j.mono ?_
    show _ ≤ 501 * (ws.length + (ws.map fun w => ((inner w).map (tot n)).sum).sum)
    have e : ∀ l : List PV, (l.map fun w => 500 + 501 * ((inner w).map (tot n)).sum + 1).sum = 501 * (l.length + (l.map fun w => ((inner w).map (tot n)).sum).sum) := by
      intro l
      induction l with
      | nil => rfl
      | cons a l ih => simp only [List.map_cons, List.sum_cons, List.length_cons, ih]; omega
    rw [e]
    exact Nat.le_refl _
  · have e : ws = [] := e
    subst e; rfl
  · have e : ws ≠ [] := e
    exact Nb.join (l := ws.map _) (fun h => e (List.map_eq_nil_iff.mp h)) fun z hz => by
      obtain ⟨w, hx, rfl⟩ := List.mem_map.mp hz
      exact (hW w (hw w hx)).2
theorem word_tx {C : RC} (hC : CN C) : ∀ (n l : Nat) (x : PV), l + n ≤ 20 → Word C n l x → Tx (500 + 501 * ((inner x).map (tot n)).sum) (wordT (rowT n) x) ∧ Nb (wordT (rowT n) x) := by
  intro n
  induction n with
  | zero => intro l x hl h; have := simple_tx (R := rowT 0) hC (by omega) h; exact ⟨this.1.mono (by omega), this.2⟩
  | succ n ih =>
    intro l x hl h
    refine deep_tx hC (by omega) h fun r hr => ?_
    rcases hr with hr | hr
    · exact rowOf_tx (R := rowT 0) (T := tot 0) hr fun w hw => ih l w (by omega) hw
    · exact rowOf_tx (R := rowT 0) (T := tot 0) hr fun w hw => ih (l + 1) w (by omega) hw
theorem row_tx {C : RC} (hC : CN C) {n l : Nat} {x : PV} (hl : l + n ≤ 20) (h : Row C n l x) : RT (rowT (n + 1)) (tot (n + 1)) x :=
  rowOf_tx (R := rowT 0) (T := tot 0) h fun w hw => word_tx hC n l w hl hw
end
/-! Fw89 -/
section
/-! ### adding and joining texts -/
end
/-! Fw90: the texts of rows, as the program tells them. -/
section
end
/-! Fw91: the texts of rows, as the program tells them. -/
/-! Fw92: the texts of words, as the program tells them. -/
/-! Fw93: strip; the texts of rows, as the law tells them. -/
/-! Fw94: the texts of words, as the law tells them. -/
section
def PartOk (ws : List Str) (y : PV) : Prop := (∃ z, y = .str z ∧ Tx 27 z) ∨ (∃ k : Nat, k < 21 ∧ y = .int (k : Int)) ∨ Path ws y
theorem PartOk.tx {ws : List Str} {y : PV} (hw : allN ws) (h : PartOk ws y) : Tx 27 (partT y) := by
  rcases h with ⟨z, rfl, h⟩ | ⟨k, hk, rfl⟩ | h
  · exact h
  · exact (Tx.lit (n := 2) (digits k hk).1).mono (by omega)
  · exact (path_tx hw h).1
end
/-! Fw95: the words of kinds, as the program tells them. -/
/-! Fw96: the text of a kind, as the law tells it. -/
/-! Fw97: the text of a kind, as the law tells it: the walk. -/
/-! Fw98: rows by levels; the texts of defs and programs. -/
section
def Pn (C : RC) (n : Nat) (r : PV) : Prop := ∃ l, l + n ≤ 20 ∧ Row C n l r ∧ tot (n + 1) r ≤ 60
def Wn (C : RC) (n : Nat) (w : PV) : Prop := ∃ l, l + n ≤ 20 ∧ Word C n l w ∧ ((inner w).map (tot n)).sum ≤ 60
theorem Pn.rt {C : RC} (hC : CN C) {n : Nat} {r : PV} (h : Pn C n r) : RT (rowT (n + 1)) (tot (n + 1)) r ∧ tot (n + 1) r ≤ 60 := by
  obtain ⟨l, hl, h, ht⟩ := h
  exact ⟨row_tx hC hl h, ht⟩
theorem Pn.tup {C : RC} {n : Nat} {r : PV} (h : Pn C n r) : ∃ xs, r = .tup xs ∧ PV.dats xs = true ∧ PV.deps xs ≤ 150 := by
  obtain ⟨l, hl, h, ht⟩ := h
  have dd := row_dd h
  obtain ⟨ws, rfl, _⟩ := h
  refine ⟨ws, rfl, dd.1, ?_⟩
  have := dd.2
  unfold PV.dep at this
  omega
theorem Wn.tx {C : RC} (hC : CN C) {n : Nat} {w : PV} (h : Wn C n w) : Tx 30560 (wordT (rowT n) w) := by
  obtain ⟨l, hl, h, ht⟩ := h
  exact (word_tx hC n l w hl h).1.mono (by omega)
theorem Pn.words {C : RC} (hC : CN C) {n : Nat} {r : PV} (h : Pn C n r) : ∃ ws, r = .tup ws ∧ ws.length ≤ 7 ∧ ∀ w ∈ ws, Wn C n w ∧ Tx 30560 (wordT (rowT n) w) := by
  obtain ⟨l, hl, ⟨ws, rfl, h7, hw⟩, ht⟩ := h
  refine ⟨ws, rfl, h7, fun w hx => ?_⟩
  have wn : Wn C n w := ⟨l, hl, hw w hx, by
    have ht : ws.length + (ws.map fun w => ((inner w).map (tot n)).sum).sum ≤ 60 := ht
    have := mem_sum (fun w => ((inner w).map (tot n)).sum) hx
    omega⟩
  exact ⟨wn, wn.tx hC⟩
theorem deep_imp {C : RC} {l : Nat} {x : PV} {R : Nat → PV → Prop} {P : PV → Prop} (h : Deep C R l x) (hP : ∀ r ∈ inner x, ∀ l2, l2 = l ∨ l2 = l + 1 → R l2 r → P r) : Deep C (fun _ => P) l x := by
  have br : ∀ {hold : Bool} {bs : List PV}, (∀ b ∈ bs, Branch C.ws hold (R l) b) → (∀ r ∈ bs.map third, ∀ l2, l2 = l ∨ l2 = l + 1 → R l2 r → P r) → ∀ b ∈ bs, Branch C.ws hold P b := fun h1 h2 b hb => by
    obtain ⟨a, o, r, e, ha, ho, hr⟩ := h1 b hb
    exact ⟨a, o, r, e, ha, ho, h2 r (List.mem_map.mpr ⟨b, hb, by rw [e]; rfl⟩) l (.inl rfl) hr⟩
  cases h with
  | simple _ h => exact .simple _ h
  | loop r h => exact .loop r (hP r (by show r ∈ [r]; simp) (l + 1) (.inr rfl) h)
  | ask b h => obtain ⟨bs, rfl, h1, h2, h3⟩ := h; exact .ask _ ⟨bs, rfl, h1, h2, br h3 hP⟩
  | call z ps b a1 a2 a3 h => obtain ⟨bs, rfl, h1, h2, h3⟩ := h; exact .call z ps _ a1 a2 a3 ⟨bs, rfl, h1, h2, br h3 hP⟩
  | use p d b a1 a2 h => obtain ⟨bs, rfl, h1, h2, h3⟩ := h; exact .use p d _ a1 a2 ⟨bs, rfl, h1, h2, br h3 hP⟩
theorem Wn.deep {C : RC} {n l : Nat} {w : PV} (hl : l + (n + 1) ≤ 20) (h : Word C (n + 1) l w) (ht : ((inner w).map (tot (n + 1))).sum ≤ 60) : Deep C (fun _ => Pn C n) l w := by
  refine deep_imp (R := fun l => RowOf (Word C n l)) h fun r hr l2 e h2 => ⟨l2, by omega, h2, ?_⟩
  have := mem_sum (tot (n + 1)) hr
  omega
section
/-! ### defs and programs -/
def DefOk (C : RC) (d : Df3) : Prop := nm (.str d.1) = true ∧ d.2.1.length ≤ 4 ∧ allN d.2.1 ∧ Pn C 6 d.2.2
variable {Q : PV → Store → Prop} {E : PX → Store → Prop} {S0 : Store}
/-- what is asked of a program -/
structure PrOk (C : RC) (bk : List Kind) (df : List Df3) (r0 : PV) : Prop where
  cn : CN C
  bk : bk.length ≤ 6 ∧ ∀ k ∈ bk, dKind C.ks k ∧ nm (.str k.1) = true
  df : df.length ≤ 6 ∧ ∀ d ∈ df, DefOk C d
  r0 : Pn C 6 r0
end
end
/-! Fw99: the law on rows written. -/
section
theorem Wn.inner {C : RC} {n : Nat} {w : PV} (h : Wn C n w) : ∀ r ∈ inner w, ∃ m, n = m + 1 ∧ Pn C m r := fun r hr => by
  obtain ⟨l, hl, h, ht⟩ := h
  cases n with
  | zero => rw [inner_simple h] at hr; cases hr
  | succ m =>
    obtain ⟨_, h2⟩ := (inner_deep (Wn.deep hl h ht)).2 r hr
    exact ⟨m, rfl, h2⟩
end
/-! Fw100: the law on rows written. -/
section
theorem Prog.ok {C : RC} {bk : List Kind} {df : List Df3} {r0 : PV} {most : Nat} (h : Prog C bk df r0 most) (hm : most ≤ 60) : PrOk C bk df r0 := by
  have hs := h.sum
  have cn : CN C := ⟨h.wn.2.2, h.bk1.2.2.2, fun d hd => by
    rw [h.ds] at hd
    obtain ⟨e, he, rfl⟩ := List.mem_map.mp hd
    exact ⟨h.df1.2.2 e.1 (List.mem_map_of_mem he), (h.df2 e he).1⟩⟩
  refine ⟨cn, ⟨h.bk1.2.1, fun k hk => ⟨h.bk2 k hk, h.bk1.2.2.2 k.1 (by rw [h.ks]; exact List.mem_map_of_mem hk)⟩⟩, ⟨h.df1.1, fun d hd => ?_⟩, 0, by omega, h.rk, by show tot 7 r0 ≤ 60; omega⟩
  have := mem_sum (fun d : Df3 => tot 7 d.2.2) hd
  exact ⟨h.df1.2.2 d.1 (List.mem_map_of_mem hd), (h.df2 d hd).1, (h.df2 d hd).2.2.1, 0, by omega, (h.df2 d hd).2.2.2, by show tot 7 d.2.2 ≤ 60; omega⟩
end
end Ev
namespace Ev
open PySem PySem.Spec PyProof.Rows L2
/-! Fw101: exceptions: raised, caught as a thing of the store. -/
section
/-! ### the heap with the caught exception tracked -/
/-! ### try: body, except x as n: suite -/
/-! ### what it is worth -/
/-! ### raise -/
/-- raise C('..'), C without an own __init__ -/
def sRaise0 (C : Str) : TSt := fun ρ S => .exc ⟨C, []⟩ ρ S
section
variable {X : Cx} {W : WX} {x m : Str} {C : Addr} {j : Nat} {p p2 pos pos' : Pos}
end
end
/-! Fw102: what is asked of a caught exception; own __init__; defs called within an except suite; the head's facts of classes. -/
section
/-! ### classes -/
/-- is x's class y, or beneath it (own classes over OrderError, all of them right beneath it) -/
def exSub (x y : Str) : Bool := x == y || y == "OrderError" || y == "ValueError"
/-- what is asked of the class x at D -/
structure XCl (K : PySem.W.Frag) (D : Addr) : Prop where
  is : ExcC K D
  ga : PySem.W.findIn K (.ref D) "__getattr__" = some none
  cl : (PySem.W.clsIn K D).isSome = true
  no : ∀ f ∈ (["why", "number", "name"] : List Str), PySem.W.findIn K (.ref D) f = some none
/-- the classes rs are raised, ys asked for -/
structure XAll (K : PySem.W.Frag) (mg : Str → Option Value) (rs ys : List Str) : Prop where
  gr : ∀ x ∈ rs, mg x = some (.ref (He.ga K x))
  gy : ∀ y ∈ ys, mg y = some (.ref (He.ga K y))
  cl : ∀ x ∈ rs, XCl K (He.ga K x)
  ex : ∀ x ∈ rs, ∀ y ∈ ys, PySem.W.exmOne K (.ref (He.ga K x)) (.ref (He.ga K y)) = some (exSub x y)
  kd : ∀ x ∈ rs, ∀ y ∈ ys, PySem.W.kitOne K (.ref (He.ga K x)) (.ref (He.ga K y)) = some (exSub x y)
  kv : ∀ x ∈ rs, PySem.W.kitOne K (.ref (He.ga K x)) (.type "ValueError") = some true
def xclB (K : PySem.W.Frag) (D : Addr) : Bool := decide (PySem.W.findIn K (.ref D) "__getattribute__" = some (some (.builtin "BaseException.__getattribute__"))) && (decide (PySem.W.findIn K (.ref D) "__getattr__" = some none) && (decide (PySem.W.subIn K (.ref D) (.type "BaseException") = some true) && (PySem.W.hasDictIn K D &&
  (decide (PySem.W.findIn K (.ref D) "__class__" = some (some (.builtin "object.__class__"))) && (decide (PySem.W.specialIn K (.builtin "object.__class__") "__get__" = some (some (.builtin "getset_descriptor.__get__"))) && (decide (PySem.W.takesIn K (.builtin "object.__class__") = some true) && (decide (PySem.W.mroIn K D (.type "object") = some true) &&
  ((PySem.W.clsIn K D).isSome && (["why", "number", "name"] : List Str).all fun f => decide (PySem.W.findIn K (.ref D) f = some none)))))))))
def xallB (rs ys : List Str) (K : PySem.W.Frag) : Bool := (rs.all fun x => (He.Fa.glo x).ok K && (xclB K (He.ga K x) && (decide (PySem.W.kitOne K (.ref (He.ga K x)) (.type "ValueError") = some true) && ys.all fun y => decide (PySem.W.exmOne K (.ref (He.ga K x)) (.ref (He.ga K y)) = some (exSub x y)) && decide (PySem.W.kitOne K (.ref (He.ga K x)) (.ref (He.ga K y)) = some (exSub x y))))) &&
  ys.all fun y => (He.Fa.glo y).ok K
/-! ### e.f, isinstance(e, ..) -/
theorem RKs.look {K : PySem.W.Frag} {μ : List Addr} {H : Hp} {fs : List (Str × PV)} {fv : List (Str × V)} (r : RKs K μ H fs fv) {f : Str} {x : PV} (h : fs.lookup f = some x) : ∃ v, fv.lookup f = some v ∧ RV K μ H x v := by
  induction r with
  | nil => cases h
  | @cons p q _ _ hp t ih =>
    obtain ⟨g, y⟩ := p
    obtain ⟨g', w⟩ := q
    obtain ⟨e, ry⟩ := hp
    cases e
    rw [List.lookup_cons] at h ⊢
    cases hb : (f == g) with
    | true => rw [hb] at h; cases h; exact ⟨w, rfl, ry⟩
    | false => rw [hb] at h; exact ih h
/-- a caught exception, as it lies -/
structure XAt (K : PySem.W.Frag) (H : Hp) (a D : Addr) (oe : Obj) (d : Option Addr) : Prop where
  at_ : H a = some (exnO a oe)
  zc : Zc (.ref D) d oe
  fl : ∃ vs, oe.data = .fields vs
  dd : ∀ da, d = some da → ∃ fv, H da = some (.xd fv)
section
variable {X : Cx} {W : WX} {a : Expr} {ea : TV} {pos p : Pos} {rs ys : List Str}
theorem XAt.ext {K : PySem.W.Frag} {cm : CM} {μ : List Addr} {S : Store} {H : Hp} {b D : Addr} {oe : Obj} {d : Option Addr} {p : Addr} {o : HO} (T : XAt K H b D oe d) (hp : H p = none) : XAt K (upd H p o) b D oe d :=
  ⟨by rw [upd_ne (ne_of_none T.at_ hp)]; exact T.at_, T.zc, T.fl, fun da e => by
    obtain ⟨fv, q⟩ := T.dd da e
    exact ⟨fv, by rw [upd_ne (ne_of_none q hp)]; exact q⟩⟩
/-- names of classes -/
inductive ClsN (X : Cx) : List Str → List Expr → Prop where
  | nil : ClsN X [] []
  | cons {y : Str} {py : Pos} {zs : List Str} {es : List Expr} (hg : Gl X y) (hd : (y == ("__debug__" : Str)) = false) (hs : starEach (.Name y py :: es) X.env = (false, eval (.Name y py) X.env) :: starEach es X.env) (t : ClsN X zs es) : ClsN X (y :: zs) (.Name y py :: es)
theorem ClsN.pa (A : XAll X.K X.mg rs ys) {zs : List Str} {es : List Expr} (c : ClsN X zs es) : (∀ z ∈ zs, z ∈ ys) → PA X es (fun _ H Q => Q (zs.map fun z => V.ref (He.ga X.K z)) H) := by
  induction c with
  | nil => exact fun _ => pa_nil
  | @cons y py zs es hg hd hs t ih => exact fun h => PA.imp (pa_cons (pe_glob (v := .ref (He.ga X.K y)) hg (A.gy y (h y (by simp))) rfl hd) (ih fun z hz => h z (by simp [hz])) hs) fun σ H Q q => q
end
/-! ### an own __init__ -/
end
/-! Fw103: defs called within an except suite (they raise nothing). -/
section
structure RoomA (k : Nat) (A : Around) : Prop where
  dp : A.depth + 3 * k + 5 < recursionLimit
  un : A.units + 16 * k + 200 < cLine
theorem RoomA.mono {j k : Nat} {A : Around} (r : RoomA k A) (h : j ≤ k) : RoomA j A := ⟨by have := r.dp; omega, by have := r.un; omega⟩
theorem RoomA.depth {k : Nat} {A : Around} (r : RoomA k A) : A.depth < recursionLimit := by have := r.dp; omega
end
/-! Fw104: what the head says of own __init__s; raise and try in the walk. -/
section
/-! ### the head -/
def xnoB (x : Str) (K : PySem.W.Frag) : Bool := (He.Fa.glo x).ok K && (He.Fa.exc x).ok K
/-- what the names reach in n steps, and the statics -/
def asS (g : Addr → Option Obj) (n : Nat) : List Addr := He.asD g n ++ [cStatics]
abbrev AlS : Type := He.AlD × Bool
def obsS (n : Nat) (fa : List He.Fa) (fn : List He.DefD) (ex : PySem.W.Frag → Bool) (g : Addr → Option Obj) : AlS := (He.obsD fa fn (He.frT g (asS g n)), ex (He.frT g (asS g n)))
def hookS (n : Nat) (fa : List He.Fa) (fn : List He.DefD) (ex : PySem.W.Frag → Bool) : PySem.W.Hook where
  α := AlS
  obs := fun s => obsS n fa fn ex s.heap.get?
  val := fun _ => (He.valD fn, true)
  says := fun _ h => ∃ K : PySem.W.Frag, K.In h ∧ He.SaysD fa fn K ∧ ex K = true
  of := fun _ _ e => ⟨_, He.frT_in, congrArg (fun z : AlS => z.1) e, congrArg (fun z : AlS => z.2) e⟩
  keeps := fun _ _ _ ⟨K, hK, c⟩ k => ⟨K, PySem.W.Frag.In.keeps hK k, c⟩
/-! ### the walk -/
section
variable {Q : SR → Prop} {ρ : Env'} {S : Store} {e : TV} {a b : TSt} {i : Nat} {t : Str → Option Bool} {rs ys : List Str}
end
section
variable {Q : PV → Store → Prop} {E : PX → Store → Prop} {ρ : Env'} {S T : Store} {e : TV} {rs ys : List Str}
end
end
end Ev
namespace Ev
open PySem PySem.Spec PyProof.Rows L2 SX
/-! Fw105: what is told: a value, or a wrong. -/
section
section
variable {Q : SR → Prop} {ρ ρ' : Env'} {S : Store} {b : TSt} {i : Nat} {t : Str → Option Bool} {f : PV → Env'}
end
end
end Ev
namespace Ev
open PySem PySem.Spec PyProof.Rows L2 SX
/-! Fw106 -/
/-! Fw107 -/
section
end
/-! Fw108: list.insert, max of a list, list(range). -/
/-! Fw109 -/
section
/-! ### a loop that raises at the first thing that is so -/
/-! ### what is held beneath a path, who looks there -/
def fUnder (hs : List Hold) (p : List Str) : List Hold := hs.filter fun h => ben h.1 p
def fSn (ls : List Look) (p : List Str) : Bool := ls.any fun l => ben l.2 p
def fAway (hs : List Hold) (p : List Str) : List Hold := hs.filter fun h => !(ben h.1 p)
end
/-! Fw110: names that fit, names that are bare. -/
/-! Fw111: bare; what is due; what is told. -/
/-! Fw112 -/
/-! Fw113 -/
/-! Fw114 -/
section
/-! ### kinds of a book -/
def fKd (bk : List Kind) (z : Str) : Option Kind := bk.find? fun k => k.1 == z
theorem fKd_mem {bk : List Kind} (nd : (bk.map (·.1)).Nodup) {k : Kind} (hk : k ∈ bk) : fKd bk k.1 = some k := by
  unfold fKd
  induction bk with
  | nil => cases hk
  | cons a bk ih =>
    rw [List.map_cons, List.nodup_cons] at nd
    rw [List.find?_cons]
    rcases List.mem_cons.mp hk with h | h
    · subst h; simp
    · have : (a.1 == k.1) = false := by
        refine Bool.eq_false_iff.mpr fun e => nd.1 ?_
        have e : a.1 = k.1 := by simpa using e
        rw [e]; exact List.mem_map.mpr ⟨k, h, rfl⟩
      rw [this]
      exact ih nd.2 h
def fRest (bk : List Kind) (h : Hold) : Bool := match fKd bk h.2.1 with
  | some k => (stOf k.2 h.2.2).2.1
  | none => false
end
/-! Fw115: things left. -/
section
theorem SdOk.kd {bk : List Kind} {pool : List Str} {hs : List Hold} {ls : List Look} (ok : SdOk bk pool hs ls) (nd : (bk.map (·.1)).Nodup) {h : Hold} (hh : h ∈ hs) : ∃ k ∈ bk, k.1 = h.2.1 ∧ fKd bk h.2.1 = some k ∧ h.2.2 ∈ k.2.map (·.1) ∧ fRest bk h = (stOf k.2 h.2.2).2.1 := by
  obtain ⟨k, hk, e, hs⟩ := (ok.hold h hh).2
  have e2 : fKd bk h.2.1 = some k := by rw [← e]; exact fKd_mem nd hk
  exact ⟨k, hk, e, e2, hs, by unfold fRest; rw [e2]⟩
end
/-! Fw116 -/
section
theorem SdOk.away {bk : List Kind} {pool : List Str} {hs : List Hold} {ls : List Look} (ok : SdOk bk pool hs ls) {p : List Str} (hn : fSn ls p = false) : SdOk bk pool (fAway hs p) ls :=
  ⟨fun h hh => ok.hold h (List.mem_filter.mp hh).1, ok.apart.sublist List.filter_sublist, List.Pairwise.sublist (List.filter_sublist.map _) ok.srt, fun l hl => ⟨(ok.look l hl).1, by
    obtain ⟨h, hh, e⟩ := (ok.look l hl).2
    have := List.any_eq_false.mp hn l hl
    exact ⟨h, List.mem_filter.mpr ⟨hh, by rw [e]; simpa using this⟩, e⟩⟩, ok.lnd, fun l hl h hh => ok.lapart l hl h (List.mem_filter.mp hh).1, ok.lsrt⟩
end
/-! Fw117 -/
/-! Fw118 -/
/-! Fw119 -/
section
/-! ### things moved -/
def fLed (hs : List Hold) (p o : List Str) : List Hold := hs.map fun h => (o ++ h.1.drop p.length, h.2)
def fLong (hs : List Hold) (p o : List Str) : Bool := (fLed hs p o).any fun h => decide (3 < h.1.length)
end
/-! Fw120 -/
section
/-! ### moved, and moved back -/
theorem ben_led {o t : List Str} : ben (o ++ t) o = true := by unfold ben; rw [List.take_left]; exact beq_self_eq_true _
theorem ben_pre {a b : List Str} : ben a b = true ↔ ∃ t, a = b ++ t := by
  constructor
  · intro h
    have h : a.take b.length = b := by simpa [ben] using h
    exact ⟨a.drop b.length, by have := List.take_append_drop b.length a; rw [h] at this; exact this.symm⟩
  · rintro ⟨t, rfl⟩
    exact ben_led
theorem ben_trans {a b c : List Str} (h1 : ben a b = true) (h2 : ben b c = true) : ben a c = true := by
  obtain ⟨t, rfl⟩ := ben_pre.mp h1
  obtain ⟨u, rfl⟩ := ben_pre.mp h2
  exact ben_pre.mpr ⟨u ++ t, by rw [List.append_assoc]⟩
/-- both lie ahead of a third -/
theorem ben_two {a b c : List Str} (h1 : ben c a = true) (h2 : ben c b = true) : ben a b = true ∨ ben b a = true := by
  obtain ⟨t, rfl⟩ := ben_pre.mp h1
  obtain ⟨u, e⟩ := ben_pre.mp h2
  rcases List.append_eq_append_iff.mp e with ⟨v, e1, _⟩ | ⟨v, e1, _⟩
  · exact .inr (ben_pre.mpr ⟨v, e1⟩)
  · exact .inl (ben_pre.mpr ⟨v, e1⟩)
theorem ben_app {o a b : List Str} : ben (o ++ a) (o ++ b) = ben a b := by
  cases h : ben a b
  · refine Bool.eq_false_iff.mpr fun h2 => ?_
    obtain ⟨t, e⟩ := ben_pre.mp h2
    rw [List.append_assoc] at e
    have := List.append_cancel_left e
    rw [ben_pre.mpr ⟨t, this⟩] at h
    cases h
  · obtain ⟨t, rfl⟩ := ben_pre.mp h
    exact ben_pre.mpr ⟨t, by rw [List.append_assoc]⟩
theorem led_path {hs : List Hold} {p o : List Str} {q : Hold} (h : q ∈ fLed (fUnder hs p) p o) : ∃ h ∈ hs, ∃ t, h.1 = p ++ t ∧ q = (o ++ t, h.2) := by
  obtain ⟨a, ha, rfl⟩ := List.mem_map.mp h
  obtain ⟨h1, h2⟩ := List.mem_filter.mp ha
  obtain ⟨t, e⟩ := ben_pre.mp h2
  exact ⟨a, h1, t, e, by rw [e, List.drop_left]⟩
theorem perm_parts {α : Type} (l : List α) (p : α → Bool) : (l.filter (fun a => !(p a)) ++ l.filter p).Perm l := by
  induction l with
  | nil => exact List.Perm.refl _
  | cons a l ih =>
    rw [List.filter_cons, List.filter_cons]
    cases h : p a
    · simpa using ih
    · simp only [Bool.not_true, Bool.false_eq_true, if_false, if_true]
      exact List.perm_middle.trans (ih.cons a)
structure Moved (bk : List Kind) (pool : List Str) (hs : List Hold) (ls : List Look) (p o : List Str) (hs' : List Hold) : Prop where
  ne : (fUnder hs p).isEmpty = false
  sn : fSn ls p = false
  rm : roomS (fAway hs p) ls o = true
  sh : fLong (fUnder hs p) p o = false
  pm : hs'.Perm (fAway hs p ++ fLed (fUnder hs p) p o)
  st : sortO ((fAway hs p ++ fLed (fUnder hs p) p o).map eHo) = hs'.map eHo
/-- no hold that stays is a beginning of o, nor beneath it -/
theorem Moved.ap {bk : List Kind} {pool : List Str} {hs hs' : List Hold} {ls : List Look} {p o : List Str} (m : Moved bk pool hs ls p o hs') {a : Hold} (ha : a ∈ fAway hs p) (t : List Str) : ben a.1 (o ++ t) = false ∧ ben (o ++ t) a.1 = false := by
  have no := (room_no m.rm).2 a ha
  constructor
  · refine Bool.eq_false_iff.mpr fun h => ?_
    rw [ben_trans h ben_led] at no
    cases no.1
  · refine Bool.eq_false_iff.mpr fun h => ?_
    rcases ben_two (c := o ++ t) h ben_led with h | h
    · rw [h] at no; cases no.1
    · rw [h] at no; cases no.2
theorem Moved.ok {bk : List Kind} {pool : List Str} {hs hs' : List Hold} {ls : List Look} {p o : List Str} (m : Moved bk pool hs ls p o hs') (ok : SdOk bk pool hs ls) (ho : 1 ≤ o.length) (hp : ∀ z ∈ o, z ∈ pool) : SdOk bk pool hs' ls := by
  have no := room_no m.rm
  have mem : ∀ {h : Hold}, h ∈ hs' → h ∈ fAway hs p ∨ ∃ a ∈ hs, ∃ t, a.1 = p ++ t ∧ h = (o ++ t, a.2) := fun hh => by
    rcases List.mem_append.mp (m.pm.mem_iff.mp hh) with h | h
    · exact .inl h
    · exact .inr (led_path h)
  refine ⟨fun h hh => ?_, ?_, by rw [← m.st]; exact sortO_srtd _, fun l hl => ⟨(ok.look l hl).1, ?_⟩, ok.lnd, fun l hl h hh => ?_, ok.lsrt⟩
  · rcases mem hh with h1 | ⟨a, ha, t, e, rfl⟩
    · exact ok.hold h (List.mem_filter.mp h1).1
    · refine ⟨⟨by show 1 ≤ (o ++ t).length; rw [List.length_append]; omega, ?_, fun z hz => ?_⟩, (ok.hold a ha).2⟩
      · have hq : (o ++ t, a.2) ∈ fLed (fUnder hs p) p o := by
          refine List.mem_map.mpr ⟨a, List.mem_filter.mpr ⟨ha, ben_pre.mpr ⟨t, e⟩⟩, ?_⟩
          rw [e, List.drop_left]
        have := List.any_eq_false.mp m.sh _ hq
        simp only [decide_eq_true_eq] at this
        exact Nat.le_of_not_lt this
      · rcases List.mem_append.mp hz with hz | hz
        · exact hp z hz
        · exact (ok.hold a ha).1.2.2 z (by rw [e]; exact List.mem_append_right _ hz)
  · refine (m.pm.pairwise_iff (fun {a b} h => ⟨h.2, h.1⟩)).mpr (List.pairwise_append.mpr ⟨ok.apart.sublist List.filter_sublist, ?_, fun a ha b hb => ?_⟩)
    · unfold fLed
      rw [List.pairwise_map]
      refine List.Pairwise.imp_of_mem (fun {a b} ha hb hab => ?_) (ok.apart.sublist (show (fUnder hs p).Sublist hs from List.filter_sublist))
      obtain ⟨t, e1⟩ := ben_pre.mp (List.mem_filter.mp ha).2
      obtain ⟨u, e2⟩ := ben_pre.mp (List.mem_filter.mp hb).2
      rw [e1, e2, ben_app, ben_app] at hab
      rw [e1, e2, List.drop_left, List.drop_left]
      exact ⟨by rw [ben_app]; exact hab.1, by rw [ben_app]; exact hab.2⟩
    · obtain ⟨c, _, t, _, rfl⟩ := led_path hb
      exact m.ap ha t
  · obtain ⟨h, hh, e⟩ := (ok.look l hl).2
    have := List.any_eq_false.mp m.sn l hl
    exact ⟨h, m.pm.mem_iff.mpr (List.mem_append_left _ (List.mem_filter.mpr ⟨hh, by rw [e]; simpa using this⟩)), e⟩
  · rcases mem hh with h1 | ⟨a, ha, t, e, rfl⟩
    · exact ok.lapart l hl h (List.mem_filter.mp h1).1
    · have hn := no.1 l hl
      obtain ⟨y, r, rfl⟩ : ∃ y r, o = y :: r := by cases o with | nil => simp at ho | cons y r => exact ⟨y, r, rfl⟩
      have hy : l.1 ≠ y := fun e => hn (by rw [e]; rfl)
      refine ⟨?_, ?_⟩
      · refine Bool.eq_false_iff.mpr fun hb => hy ?_
        have hb : ((y :: r) ++ t).take 1 = [l.1] := by simpa [ben] using hb
        simp at hb
        exact hb.symm
      · refine Bool.eq_false_iff.mpr fun hb => hy ?_
        obtain ⟨u, e⟩ := ben_pre.mp hb
        simp only [List.cons_append, List.cons.injEq] at e
        exact e.1
theorem eqv_Pa (a b : List Str) : PV.eqv (ePa a) (ePa b) = (a == b) := by
  have h := eqS_Pa (S0 := []) a b
  rw [eqS_dat (x := ePa a) (y := ePa b) (dd_Pa a).1 (dd_Pa b).1 (by show PV.dep (ePa a) ≤ _; have := (dd_Pa a).2; unfold deepest; omega)] at h
  exact Option.some.inj h
theorem eqv_Ho {a b : Hold} (h : PV.eqv (eHo a) (eHo b) = true) : a = b := by
  have h : (PV.eqv (ePa a.1) (ePa b.1) && ((a.2.1 == b.2.1) && ((a.2.2 == b.2.2) && true))) = true := h
  rw [eqv_Pa] at h
  simp only [Bool.and_eq_true, beq_iff_eq, and_true] at h
  obtain ⟨a1, a2, a3⟩ := a
  obtain ⟨b1, b2, b3⟩ := b
  simp only at h
  rw [h.1, h.2.1, h.2.2]
/-- alike in order: the same -/
theorem same_Ho {a b : Hold} (h1 : ltS (eHo a) (eHo b) = false) (h2 : ltS (eHo b) (eHo a) = false) : a = b := by
  rcases ser_eqv (eHo a) (eHo b) (od_Ho a) (od_Ho b) with ⟨h, _⟩ | ⟨_, d⟩
  · exact eqv_Ho h
  · exfalso
    obtain ⟨p, c, d, s, t, e1, e2, ne⟩ := d
    have g1 : ll (ser (eHo a)) (ser (eHo b)) = false := h1
    have g2 : ll (ser (eHo b)) (ser (eHo a)) = false := h2
    rw [e1, e2, ll_pre] at g1
    rw [e1, e2, ll_pre] at g2
    simp only [ll] at g1 g2
    rcases Int.lt_or_gt_of_ne ne with h | h
    · rw [if_pos h] at g1; cases g1
    · rw [if_pos h] at g2; cases g2
theorem const_perm {α : Type} {l m : List α} (h : l.Perm m) (e : ∀ x ∈ l, ∀ y ∈ l, x = y) : l = m := by
  cases l with
  | nil => exact (List.Perm.nil_eq h)
  | cons c l =>
    have h1 : c :: l = List.replicate (c :: l).length c := List.eq_replicate_iff.mpr ⟨rfl, fun x hx => e x hx c (List.mem_cons_self ..)⟩
    have h2 : m = List.replicate m.length c := List.eq_replicate_iff.mpr ⟨rfl, fun x hx => e x (h.mem_iff.mpr hx) c (List.mem_cons_self ..)⟩
    rw [h1, h2, h.length_eq]
theorem perm_sort {hs a : List Hold} (h : a.Perm hs) (srt : SrtO.Srtd ltS (hs.map eHo)) : sortO (a.map eHo) = hs.map eHo := by
  refine (sortO_uniq srt ⟨(h.map eHo).symm, fun z => ?_⟩).symm
  refine const_perm ((h.map eHo).symm.filter (SrtO.eqv ltS z)) fun x hx y hy => ?_
  obtain ⟨hx1, hx2⟩ := List.mem_filter.mp hx
  obtain ⟨hy1, hy2⟩ := List.mem_filter.mp hy
  obtain ⟨x1, x2⟩ := SrtO.eqv_iff.mp hx2
  obtain ⟨y1, y2⟩ := SrtO.eqv_iff.mp hy2
  obtain ⟨b, _, rfl⟩ := List.mem_map.mp hx1
  obtain ⟨c, _, rfl⟩ := List.mem_map.mp hy1
  rw [same_Ho (a := b) (b := c) (ll_tr (ser (eHo c)) (ser z) (ser (eHo b)) y1 x2) (ll_tr (ser (eHo b)) (ser z) (ser (eHo c)) x1 y2)]
theorem pw_ne {hs : List Hold} (h : hs.Pairwise fun a b => ben a.1 b.1 = false ∧ ben b.1 a.1 = false) : ∀ a ∈ hs, ∀ b ∈ hs, a ≠ b → ben a.1 b.1 = false ∧ ben b.1 a.1 = false := by
  induction h with
  | nil => exact fun _ h => by cases h
  | @cons x l hx _ ih =>
    intro a ha b hb ne
    rcases List.mem_cons.mp ha with ea | ha
    · rcases List.mem_cons.mp hb with eb | hb
      · exact absurd (ea.trans eb.symm) ne
      · rw [ea]; exact hx b hb
    · rcases List.mem_cons.mp hb with eb | hb
      · rw [eb]; exact (hx a ha).symm
      · exact ih a ha b hb ne
/-- what was moved is moved back -/
theorem Moved.back {bk : List Kind} {pool : List Str} {hs hs' : List Hold} {ls : List Look} {p o : List Str} (m : Moved bk pool hs ls p o hs') (ok : SdOk bk pool hs ls) (hp : 1 ≤ p.length) : Moved bk pool hs' ls o p hs := by
  have no := room_no m.rm
  have f1 : (fAway hs p).filter (fun h => ben h.1 o) = [] := List.filter_eq_nil_iff.mpr fun a ha => by
    have := (m.ap ha []).1
    rw [List.append_nil] at this
    simp [this]
  have f2 : (fLed (fUnder hs p) p o).filter (fun h => ben h.1 o) = fLed (fUnder hs p) p o := List.filter_eq_self.mpr fun a ha => by
    obtain ⟨c, _, t, _, rfl⟩ := led_path ha
    exact ben_led
  have f3 : (fAway hs p).filter (fun h => !(ben h.1 o)) = fAway hs p := List.filter_eq_self.mpr fun a ha => by
    have := (m.ap ha []).1
    rw [List.append_nil] at this
    simp [this]
  have f4 : (fLed (fUnder hs p) p o).filter (fun h => !(ben h.1 o)) = [] := List.filter_eq_nil_iff.mpr fun a ha => by
    obtain ⟨c, _, t, _, rfl⟩ := led_path ha
    simp [ben_led]
  have pu : (fUnder hs' o).Perm (fLed (fUnder hs p) p o) := by
    have := m.pm.filter (fun h : Hold => ben h.1 o)
    rw [List.filter_append, f1, f2, List.nil_append] at this
    exact this
  have pa : (fAway hs' o).Perm (fAway hs p) := by
    have := m.pm.filter (fun h : Hold => !(ben h.1 o))
    rw [List.filter_append, f3, f4, List.append_nil] at this
    exact this
  obtain ⟨u, hu⟩ : ∃ u, u ∈ fUnder hs p := by
    have := m.ne
    cases h : fUnder hs p with
    | nil => rw [h] at this; cases this
    | cons a l => exact ⟨a, by simp⟩
  have hu1 := (List.mem_filter.mp hu).1
  have hu2 := (List.mem_filter.mp hu).2
  have lb : ((fLed (fUnder hs p) p o).map fun h => (p ++ h.1.drop o.length, h.2)) = fUnder hs p := by
    unfold fLed
    rw [List.map_map]
    conv => rhs; rw [← List.map_id (fUnder hs p)]
    refine List.map_congr_left fun a ha => ?_
    obtain ⟨t, e⟩ := ben_pre.mp (List.mem_filter.mp ha).2
    obtain ⟨a1, a2⟩ := a
    simp only at e
    subst e
    simp
  have pl : (fLed (fUnder hs' o) o p).Perm (fUnder hs p) := by
    have := pu.map fun h : Hold => (p ++ h.1.drop o.length, h.2)
    rw [lb] at this
    exact this
  have pall : (fAway hs' o ++ fLed (fUnder hs' o) o p).Perm hs := (pa.append pl).trans (perm_parts hs fun h => ben h.1 p)
  refine ⟨?_, ?_, ?_, ?_, pall.symm, perm_sort pall ok.srt⟩
  · have : fUnder hs' o ≠ [] := fun e => by
      rw [e] at pu
      have := pu.length_eq
      unfold fLed at this
      rw [List.length_map] at this
      have h0 := List.length_pos_of_mem hu
      simp at this
      omega
    cases h : fUnder hs' o with
    | nil => exact absurd h this
    | cons a l => rfl
  · refine List.any_eq_false.mpr fun l hl => ?_
    obtain ⟨h, hh, e⟩ := (ok.look l hl).2
    have hs2 := List.any_eq_false.mp m.sn l hl
    have := (m.ap (a := h) (List.mem_filter.mpr ⟨hh, by rw [e]; simpa using hs2⟩) []).1
    rw [List.append_nil, e] at this
    simp [this]
  · unfold roomS
    have h1 : (ls.any fun l => some l.1 == p.head?) = false := List.any_eq_false.mpr fun l hl => by
      intro h
      have h : some l.1 = p.head? := by simpa using h
      have ap := (ok.lapart l hl u hu1).1
      obtain ⟨t, e⟩ := ben_pre.mp hu2
      obtain ⟨y, r, rfl⟩ : ∃ y r, p = y :: r := by cases p with | nil => simp at hp | cons y r => exact ⟨y, r, rfl⟩
      have h : l.1 = y := by simpa using h
      rw [e, h] at ap
      simp [ben] at ap
    have h2 : ((fAway hs' o).any fun h => ben h.1 p || ben p h.1) = false := List.any_eq_false.mpr fun a ha => by
      have ha := pa.mem_iff.mp ha
      obtain ⟨a1, a2⟩ := List.mem_filter.mp ha
      have a2 : ben a.1 p = false := by simpa using a2
      rw [a2, Bool.false_or]
      intro h
      have h3 := ben_trans hu2 h
      have hne : a ≠ u := fun e => by rw [e, hu2] at a2; cases a2
      have := pw_ne ok.apart u hu1 a a1 hne.symm
      rw [h3] at this
      cases this.1
    rw [h1, h2]
    rfl
  · refine List.any_eq_false.mpr fun a ha => ?_
    have := (ok.hold a (List.mem_filter.mp (pl.mem_iff.mp ha)).1).1.2.1
    simp
    omega
end
/-! Fw121 -/
/-! Fw122 -/
/-! Fw123 -/
section
section
variable {Q : PV → Store → Prop} {E : PX → Store → Prop} {S0 : Store}
def hd (h : Hold) : Str := h.1.headD default
end
end
/-! Fw124: handed and handed back, in plain lists. -/
section
def NeH (hs : List Hold) : Prop := ∀ h ∈ hs, 1 ≤ h.1.length
theorem ben_hd {h : Hold} (n : Str) (h1 : 1 ≤ h.1.length) : ben h.1 [n] = (hd h == n) := by
  obtain ⟨z, r, e⟩ : ∃ z r, h.1 = z :: r := by cases e : h.1 with | nil => rw [e] at h1; simp at h1 | cons z r => exact ⟨z, r, rfl⟩
  unfold hd
  rw [e]
  show ((z :: r).take 1 == [n]) = (z == n)
  simp
theorem NeH.away {hs : List Hold} (h : NeH hs) (n : Str) : fAway hs [n] = hs.filter fun h => !(hd h == n) := List.filter_congr fun a ha => by rw [ben_hd n (h a ha)]
end
/-! Fw125 -/
/-! Fw126 -/
/-! Fw127 -/
end Ev
namespace Ev
open PySem PySem.Spec PyProof.Rows L2
/-! Fw128: sets of texts that can be walked. -/
section
def txt (e : Int × Value) : Str := match e.2 with | .str k _ => k | _ => Str.empty
/-- at a: a set of just the texts l (unlike), whose table can be walked -/
def OSet (prog : Program) (w : World) (h : Heap) (a : Addr) (l : List Str) : Prop :=
  ∃ o es ep tb, h.get? a = some o ∧ o.ExactSet ∧ o.data = .set es ep tb ∧ (∀ e ∈ es.toList, ∃ k t, e.2 = Value.str k t ∧ e.1 = (PySem.strKind prog w).hash k) ∧ (es.toList.map txt).Perm l ∧
    es.size < scanBound ∧ tb.fits es.size = true ∧ Ris tb.place.toList ∧ (w.params.followText "set-order" = true ∨ tb.led = true)
section
variable {prog : Program} {w : World} {A : Around} {E : Value → Shared → Prop} {s : Shared} {a : Addr} {l : List Str}
theorem OSet.keep {h h' : Heap} (t : OSet prog w h a l) (k : ∀ o, h.get? a = some o → h'.get? a = some o) : OSet prog w h' a l :=
  let ⟨o, es, ep, tb, e, r⟩ := t
  ⟨o, es, ep, tb, k o e, r⟩
theorem OSet.perm {h : Heap} {m : List Str} (t : OSet prog w h a l) (p : l.Perm m) : OSet prog w h a m :=
  let ⟨o, es, ep, tb, e1, e2, e3, e4, e5, r⟩ := t
  ⟨o, es, ep, tb, e1, e2, e3, e4, e5.trans p, r⟩
end
end
/-! Fw129: set(xs) of texts, such that it can be walked; sorted(set(xs)). -/
section
section
variable {prog : Program} {w : World} {A : Around} {R : Result → Shared → Prop} {I : Addr} {fp wr : List Addr} {G : Array GenState → Array GenState → Prop} {n : Nat} {P : Nat → Value → Prop} {St : Nat → Shared → Prop}
end
section
variable {prog : Program} {w : World} {A : Around} {E : Value → Shared → Prop} {s : Shared}
end
section
variable {prog : Program} {w : World} {xs : List Str}
end
section
variable {prog : Program} {w : World} {A : Around} {E : Value → Shared → Prop} {s : Shared}
end
section
variable {prog : Program} {w : World} {A : Around} {E : Value → Shared → Prop} {s : Shared}
end
end
/-! Fw130: sorted(set(xs)) of texts, as an expression. -/
section
section
variable {prog : Program} {w : World} {A : Around} {E : Value → Shared → Prop} {s : Shared} {a : Addr} {l : List Str}
end
end
/-! Fw131: sorted(set(xs)) of texts, its worth. -/
section
open Classical in
/-- the texts of xs, unlike, in order -/
noncomputable def sortU (xs : List Str) : List Str := if h : ∃ ys : List Str, ys.Perm (unlikes xs) ∧ sortedS ys = true then h.choose else []
section
variable {X : Cx} {W : WX} {a : Expr} {ta : TE} {ea : TV} {p p2 q pos : Pos}
end
end
/-! Fw132: sorted(set(xs)): the rule. -/
section
noncomputable def sortL (xs : List PV) (S : Store) : Res LL := match asStr xs with
  | some bs => if bs.length < 64 then .ok ((sortU bs).map .str, none) S else .bad
  | none => .bad
noncomputable def lSortSet (a : TV) : TL := fun ρ S => (a ρ S).bind fun x S => match deref S x with
  | .frl xs => sortL xs S
  | .tup xs => sortL xs S
  | _ => .bad
section
variable {X : Cx} {W : WX} {a : Expr} {ta : TE} {ea : TV} {p p2 q pos : Pos}
end
section
variable {QL : LL → Store → Prop} {E : PX → Store → Prop} {ρ : Env'} {S : Store} {a : TV}
end
end
/-! Fw133: x or y as a value, by truth. -/
section
def vOrT (a b : TV) : TV := fun ρ S => (a ρ S).bind fun x S => match truth x S with
  | some true => .ok x S
  | some false => b ρ S
  | none => .bad
section
variable {X : Cx} {W : WX} {a b : Expr} {ea eb : TV} {rest : List Expr} {pos : Pos}
end
section
variable {Q : PV → Store → Prop} {E : PX → Store → Prop} {ρ : Env'} {S : Store} {a b : TV}
end
end
end Ev
namespace Ev
open PySem PySem.Spec PyProof.Rows L2 SX
/-! Fw134 -/
section
/-! ### ended, closed -/
def HsOk (bk : List Kind) (hs : List Hold) : Prop := ∀ h ∈ hs, (1 ≤ h.1.length ∧ h.1.length ≤ 3) ∧ ∃ k ∈ bk, k.1 = h.2.1 ∧ h.2.2 ∈ k.2.map (·.1)
end
end Ev
/-! Fw135 -/

namespace Ev
open PySem PySem.Spec PyProof.Rows L2 SX
/-! Fw136 -/
section
theorem SdOk.hs {bk : List Kind} {pool : List Str} {hs : List Hold} {ls : List Look} (ok : SdOk bk pool hs ls) : HsOk bk hs := fun h hh => ⟨⟨(ok.hold h hh).1.1, (ok.hold h hh).1.2.1⟩, (ok.hold h hh).2⟩
end
/-! Fw137 -/
end Ev
namespace Ev
open PySem PySem.Spec PyProof.Rows L2
/-! Fw150: instances of own classes: fields, methods, making. -/
section
/-- classes and their fields -/
abbrev Cs := List (Str × List Str)
def fldOk (cs : Cs) (C f : Str) : Bool := cs.any fun c => c.1 == C && c.2.contains f
/-! ### o.f -/
/-! ### o.f = e -/
def putG (f : Str) (v : PV) : List (Str × PV) → List (Str × PV)
  | [] => [(f, v)]
  | (g, x) :: r => if g = f then (g, v) :: r else (g, x) :: putG f v r
theorem RKs.putG {K : PySem.W.Frag} {μ : List Addr} {H : Hp} {fs : List (Str × PV)} {fv : List (Str × V)} (r : RKs K μ H fs fv) (f : Str) {y : PV} {v : V} (ry : RV K μ H y v) : RKs K μ H (Ev.putG f y fs) (putF f v fv) := by
  induction r with
  | nil => exact .cons ⟨rfl, ry⟩ .nil
  | @cons p q _ _ h t ih =>
    obtain ⟨g, x⟩ := p
    obtain ⟨g', w⟩ := q
    obtain ⟨e, rx⟩ := h
    cases e
    unfold Ev.putG putF
    by_cases e : g = f
    · rw [if_pos e, if_pos e]; exact .cons ⟨rfl, ry⟩ t
    · rw [if_neg e, if_neg e]; exact .cons ⟨rfl, rx⟩ ih
def putAt (cs : Cs) (f : Str) (x y : PV) (S : Store) : Option Store := match x with
  | .ref j => match S[j]? with
    | some (.ins C fs) => if fldOk cs C f = true ∧ fs.length < 800 then some (S.set j (.ins C (putG f y fs))) else none
    | _ => none
  | _ => none
/-! ### o.m(..), C(..) -/
end
/-! Fw151: instances: one step each. -/
section
section
variable {Q : PV → Store → Prop} {QS : SR → Prop} {E : PX → Store → Prop} {ρ : Env'} {S T : Store} {e o : TV} {es : TVs} {cs : Cs} {f : Str} {F : FV} {C m : Str}
end
end
end Ev
namespace Ev
open PySem PySem.Spec PyProof.Rows L2 SX
/-! Fw152: texts of kinds of up to eight deeds in a state. -/
section
def dState8 (st ks : List Str) (s : State) : Prop := s.1 ∈ st ∧ s.2.2.length ≤ 8 ∧ (s.2.2.map (·.1)).Nodup ∧ ∀ d ∈ s.2.2, dDeed st ks d
def dKind8 (ks : List Str) (k : Kind) : Prop := k.2 ≠ [] ∧ k.2.length ≤ 8 ∧ allN (k.2.map (·.1)) ∧ (k.2.map (·.1)).Nodup ∧ ∀ s ∈ k.2, dState8 (k.2.map (·.1)) ks s
end
/-! Fw153: the words of a kind's text, taken one by one. -/
section
/-- the thing: its row, how many are taken -/
def kwO (r k : Nat) : PObj := .ins "KindWords" [("row", .ref r), ("at", .int (k : Int))]
structure KW (j r : Nat) (ws : List Str) (k : Nat) (S : Store) : Prop where
  at_ : S[j]? = some (kwO r k)
  row : S[r]? = some (.lst (ws.map .str))
  ne : j ≠ r
  le : k ≤ ws.length
def adv (j r k : Nat) (S : Store) : Store := S.set j (kwO r k)
theorem KW.lt {j r k : Nat} {ws : List Str} {S : Store} (h : KW j r ws k S) : j < S.length := lt_of_get h.at_
theorem KW.adv {j r k m : Nat} {ws : List Str} {S : Store} (h : KW j r ws k S) (hm : m ≤ ws.length) : KW j r ws m (Ev.adv j r m S) :=
  ⟨by unfold Ev.adv; rw [List.getElem?_set_self h.lt], by unfold Ev.adv; rw [List.getElem?_set_ne h.ne]; exact h.row, h.ne, hm⟩
theorem KW.app {j r k : Nat} {ws : List Str} {S J : Store} (h : KW j r ws k S) : KW j r ws k (S ++ J) := ⟨get_app_lt h.at_, get_app_lt h.row, h.ne, h.le⟩
section
variable {Q : PV → Store → Prop} {E : PX → Store → Prop} {S S0 T : Store}
/-- what is left of the row -/
structure KR (j r : Nat) (ws rem : List Str) (S : Store) : Prop where
  kw : KW j r ws (ws.length - rem.length) S
  sf : ∃ pre, ws = pre ++ rem
def advR (j r : Nat) (ws rem : List Str) (S : Store) : Store := adv j r (ws.length - rem.length) S
theorem KR.adv {j r : Nat} {ws l rem : List Str} {S : Store} (h : KR j r ws (l ++ rem) S) : KR j r ws rem (advR j r ws rem S) := by
  obtain ⟨pre, e⟩ := h.sf
  exact ⟨h.kw.adv (Nat.sub_le _ _), pre ++ l, by rw [e, List.append_assoc]⟩
theorem KR.app {j r : Nat} {ws rem : List Str} {S J : Store} (h : KR j r ws rem S) : KR j r ws rem (S ++ J) := ⟨h.kw.app, h.sf⟩
theorem KR.num {j r : Nat} {w : Str} {ws rem : List Str} {S : Store} (h : KR j r ws (w :: rem) S) : ws.length - rem.length = ws.length - (w :: rem).length + 1 ∧ ws[ws.length - (w :: rem).length]? = some w := by
  obtain ⟨pre, e⟩ := h.sf
  have : ws.length = pre.length + (rem.length + 1) := by rw [e]; simp
  refine ⟨by simp only [List.length_cons]; omega, ?_⟩
  rw [show ws.length - (w :: rem).length = pre.length by simp only [List.length_cons]; omega, e, List.getElem?_append_right (Nat.le_refl _), Nat.sub_self]
  rfl
end
end
end Ev
namespace Ev
open PySem PySem.Spec PyProof.Rows L2
/-! Fw154: isinstance with two types; words put together and taken apart. -/
section
/-! ### isinstance with two types -/
/-! ### words put together and taken apart -/
section
variable {Q : PV → Store → Prop} {E : PX → Store → Prop} {ρ : Env'} {S : Store} {a : TV}
end
end
end Ev
namespace Ev
open PySem PySem.Spec PyProof.Rows L2 SX
/-! Fw155: a kind's text read. -/
section
section
variable {Q : PV → Store → Prop} {E : PX → Store → Prop} {S S0 T : Store}
theorem KR.to {j r : Nat} {ws rem rem' : List Str} {S : Store} (h : KR j r ws rem S) (e : ∃ l, rem = l ++ rem') : KR j r ws rem' (advR j r ws rem' S) := by
  obtain ⟨l, rfl⟩ := e
  exact h.adv
end
end
/-! Fw156: states and kinds read. -/
/-! Fw157: kinds read. -/
/-! Fw158: the law's words of a kind. -/
/-! Fw159: the same, by kinds of values. -/
/-! Fw160: the case, the great kind. -/
/-! Fw161: the great kind. -/
section
/-! ### the great kind in plain lists -/
section
variable (nn : List Str) (t : Nat)
variable {nn : List Str} {t : Nat}
end
end
/-! Fw162: the great kind made. -/
/-! Fw163: the great kind, whole. -/
/-! Fw164: the law. -/
end Ev
namespace Ev
open PySem PySem.Spec PyProof.Rows L2
/-! Fw173: dicts: d[k], d.get(k, x), dict(zip(a, b)). -/
section
def valP (kvs : List (Key × PV)) (k : Key) : Option PV := (kvs.find? fun kv => decide (kv.1 = k)).map (·.2)
theorem valP_pos {p : Key × PV} {r : List (Key × PV)} {k : Key} (e : p.1 = k) : valP (p :: r) k = some p.2 := by simp [valP, List.find?_cons, e]
theorem valP_neg {p : Key × PV} {r : List (Key × PV)} {k : Key} (e : ¬ p.1 = k) : valP (p :: r) k = valP r k := by simp [valP, List.find?_cons, e]
theorem RKs.val {K : PySem.W.Frag} {μ : List Addr} {H : Hp} {kvs : List (Key × PV)} {vs : List (Key × V)} (r : RKs K μ H kvs vs) (k : Key) : (valP kvs k = none ∧ valV vs k = none) ∨ ∃ x v, valP kvs k = some x ∧ valV vs k = some v ∧ RV K μ H x v := by
  induction r with
  | nil => exact .inl ⟨rfl, rfl⟩
  | @cons p q _ _ h t ih =>
    by_cases e : p.1 = k
    · exact .inr ⟨p.2, q.2, valP_pos e, valV_pos (h.1 ▸ e), h.2⟩
    · rw [valP_neg e, valV_neg (h.1 ▸ e)]; exact ih
/-- the dict at j, walked or not -/
def dicAt (S : Store) (j : Nat) : Option (List (Key × PV)) := match S[j]? with
  | some (.dic kvs) => some kvs
  | some (.dicW kvs) => some kvs
  | _ => none
theorem dicW_at {S : Store} {j : Nat} {kvs : List (Key × PV)} (g : S[j]? = some (.dicW kvs)) : dicAt S j = some kvs := by unfold dicAt; rw [g]
/-! ### d[k] -/
def oDIdx (x i : PV) (S : Store) : Option PV := match x, keyOf i with
  | .ref j, some k => match dicAt S j with
    | some kvs => valP kvs k
    | none => none
  | _, _ => none
section
variable {X : Cx} {W : WX} {a b c d : Expr} {ea eb ec : TV} {pos apos cpos : Pos}
/-! ### d.get(k, x); k may be None -/
def dget (j : Nat) (y u : PV) (S : Store) : Res PV := match dicAt S j with
  | some kvs => match y with
    | .non => .ok u S
    | y => match keyOf y with
      | some k => .ok ((valP kvs k).getD u) S
      | none => .bad
  | none => .bad
def vDGet2 (d k z : TV) : TV := fun ρ S => (d ρ S).bind fun x S1 => match x with
  | .ref j => match dicAt S1 j with
    | some _ => (k ρ S1).bind fun y S2 => (z ρ S2).bind fun u S3 => dget j y u S3
    | _ => .bad
  | _ => .bad
end
end
/-! Fw174: dict(zip(a, b)). -/
section
def mergeP (acc more : List (Key × PV)) : List (Key × PV) := more.foldl (fun acc kv => putP acc kv.1 kv.2) acc
end
end Ev
namespace Ev
open PySem PySem.Spec PyProof.Rows L2 SX
/-! Fw175: dicts: the walk; names called otherwise. -/
section
section
variable {Q : PV → Store → Prop} {E : PX → Store → Prop} {ρ : Env'} {S T : Store} {a b d k z : TV} {P : PV → Prop}
end
/-! ### dicts of names -/
def putL (l : List (Str × Str)) (z y : Str) : List (Str × Str) := if z ∈ l.map (·.1) then l.map (fun p => if p.1 = z then (p.1, y) else p) else l ++ [(z, y)]
/-- l calls the names ws as f does, and no others -/
structure IsF (l : List (Str × Str)) (ws : List Str) (f : Str → Str) : Prop where
  has : ∀ z ∈ ws, l.lookup z = some (f z)
  no : ∀ z, z ∉ ws → l.lookup z = none
theorem lookup_put {l : List (Str × Str)} {z y : Str} : ∀ w, (putL l z y).lookup w = if w = z then some y else l.lookup w := by
  intro w
  unfold putL
  have nz : ∀ l : List (Str × Str), z ∉ l.map (·.1) → l.lookup z = none := fun l h => by
    induction l with
    | nil => rfl
    | cons p l ih =>
      have h1 : (z == p.1) = false := by simpa using fun e => h (by simp [e])
      show (match z == p.1 with | true => some p.2 | false => l.lookup z) = none
      rw [h1]
      exact ih fun hm => h (List.mem_cons_of_mem _ hm)
  by_cases h : z ∈ l.map (·.1)
  · rw [if_pos h]
    induction l with
    | nil => simp at h
    | cons p l ih =>
      obtain ⟨a, b⟩ := p
      rw [List.map_cons]
      by_cases ha : a = z
      · subst ha
        rw [if_pos rfl]
        by_cases hw : w = a
        · subst hw; simp [List.lookup]
        · have e : (w == a) = false := by simpa using hw
          have e2 : (l.map fun p => if p.1 = a then (p.1, y) else p).lookup w = l.lookup w := by
            clear ih h
            induction l with
            | nil => rfl
            | cons q l ih2 =>
              rw [List.map_cons]
              by_cases hq : q.1 = a
              · rw [if_pos hq]
                have e3 : (w == q.1) = false := by simpa [hq] using hw
                simp only [List.lookup, e3, ih2]
              · rw [if_neg hq]
                simp only [List.lookup, ih2]
          simp only [List.lookup, e, e2, if_neg hw]
      · rw [if_neg ha]
        have hm : z ∈ l.map (·.1) := by
          rcases List.mem_cons.mp h with h | h
          · exact absurd h.symm ha
          · exact h
        have ih := ih hm
        by_cases hw : w = a
        · subst hw
          have : ¬ w = z := ha
          simp [List.lookup, this]
        · have e : (w == a) = false := by simpa using hw
          simp only [List.lookup, e]
          exact ih
  · rw [if_neg h]
    by_cases hw : w = z
    · subst hw
      rw [if_pos rfl]
      have := nz l h
      clear h nz
      induction l with
      | nil => simp [List.lookup]
      | cons p l ih =>
        obtain ⟨a, b⟩ := p
        rw [List.cons_append]
        cases e : w == a with
        | true => simp [List.lookup, e] at this
        | false =>
          simp only [List.lookup, e] at this ⊢
          exact ih this
    · rw [if_neg hw]
      clear h nz
      induction l with
      | nil =>
        have e : (w == z) = false := by simpa using hw
        simp [List.lookup, e]
      | cons p l ih => simp only [List.lookup, List.cons_append, ih]
theorem IsF.put {l : List (Str × Str)} {ws : List Str} {f : Str → Str} {z y : Str} (h : IsF l ws f) (hz : z ∈ ws) : IsF (putL l z y) ws fun w => if w = z then y else f w := by
  refine ⟨fun w hw => ?_, fun w hw => ?_⟩
  · rw [lookup_put]
    by_cases e : w = z
    · rw [if_pos e, if_pos e]
    · rw [if_neg e, if_neg e]; exact h.has w hw
  · rw [lookup_put, if_neg (fun e : w = z => hw (e ▸ hz))]; exact h.no w hw
end
/-! Fw200: dict(x) of a tuple or a list of pairs. -/
section
section
variable {X : Cx} {W : WX} {e : Expr} {ev : TV} {pd pos : Pos}
theorem SqD.plain {pins : List (Addr × Obj)} {σ : L2.St} {H : Hp} {s : Shared} {a : Addr} {vs : List V} (I : Inv X pins σ H s) (d : SqD X.K H a vs) : ∃ its : List Value, Vals vs its ∧ PlainSeq "tuple" s.heap a its.toArray ∧ vs.length ≤ sizeLine := by
  rcases d with ⟨o, hd, h⟩ | ⟨o, its, n, h1, h2, h3, h4, h5, h6⟩
  · obtain ⟨ho, z, us, r, o', ho', hc, n, hs⟩ := I.hok a _ h
    rw [ho] at ho'; cases ho'
    exact ⟨us, r, ⟨o, n, ho, hc, hd, hs⟩, z⟩
  · refine ⟨its.toList, h6, ⟨o, n, I.kIn a o h1, h2, h3, by simpa using h4⟩, ?_⟩
    have := h6.length
    simp only [Array.length_toList] at this
    omega
end
end
end Ev
namespace Ev
open PySem PySem.Spec PyProof.Rows L2
/-! Fw210: dicts: d.get(k); a dict of the module; displays of many pairs; len. -/
section
section
variable {X : Cx} {W : WX} {a b c d : Expr} {ea eb ec : TV} {pos apos cpos : Pos}
/-! ### d.get(k) -/
/-! ### a dict of the module, texts to numbers: D.get(k) -/
/-! ### {k: v, ..} -/
def pairUp : List PV → Option (List (Key × PV))
  | [] => some []
  | x :: y :: r => match keyOf x, pairUp r with
    | some k, some t => some ((k, y) :: t)
    | _, _ => none
  | _ => none
def vDicN (es : TVs) : TV := fun ρ S => (es ρ S).bind fun xs S => match pairUp xs with
  | some kvs => if kvs.length ≤ 15 then .ok (.ref S.length) (S ++ [.dic (mergeP [] kvs)]) else .bad
  | none => .bad
end
end
end Ev
namespace Ev
open PySem PySem.Spec PyProof.Rows L2 SX
/-! Fw211: the length of a dict; Known; rows, words, branches by form. -/
section
/-! ### len of a dict -/
section
variable {Q : PV → Store → Prop} {E : PX → Store → Prop} {ρ : Env'} {S S0 T : Store} {d k : TV}
end
/-- Known at i: the kinds' names, the defs with how many params -/
def KN (C : RC) (i : Nat) (S : Store) : Prop := ∃ jk jd kvs, S[i]? = some (.ins "Known" [("kind_names", .ref jk), ("param_counts", .ref jd)]) ∧ S[jk]? = some (.lst (C.ks.map .str)) ∧ S[jd]? = some (.dic kvs) ∧ ∀ d ∈ C.ds, valP kvs (.inr d.1) = some (.int d.2)
theorem KN.app {C : RC} {i : Nat} {S J : Store} (h : KN C i S) : KN C i (S ++ J) := by
  obtain ⟨jk, jd, kvs, h1, h2, h3, h4⟩ := h
  exact ⟨jk, jd, kvs, get_app_lt h1, get_app_lt h2, get_app_lt h3, h4⟩
end
/-! Fw212: a drawn row is a row. -/
section
section
variable {Q : PV → Store → Prop} {E : PX → Store → Prop} {S0 : Store} {C : RC} {i : Nat}
theorem KN.ins {C : RC} {i : Nat} {S : Store} (K : KN C i S) : ∃ fs, S[i]? = some (.ins "Known" fs) ∧ (fs.lookup ("has_kind" : Str)).isNone = true ∧ (fs.lookup ("has_call" : Str)).isNone = true ∧ (fs.lookup ("has_out" : Str)).isNone = true := by
  obtain ⟨jk, jd, kvs, g1, _⟩ := K
  exact ⟨_, g1, rfl, rfl, rfl⟩
/-! ### branches -/
/-! ### words -/
end
end
/-! Fw213: a drawn program is a program. -/
end Ev
namespace Ev
open PySem PySem.Spec PyProof.Rows L2 SX
/-! Fw215: a kind in the stead of another one; the law. -/
section
/-! ### books -/
theorem dDeed.mono {st ks : List Str} {d : Deed} (h : dDeed st [] d) : dDeed st ks d := ⟨h.1, h.2.1, h.2.2.1, h.2.2.2.1, fun o ho => ⟨(h.2.2.2.2 o ho).1, (h.2.2.2.2 o ho).2.1, fun z hz => by have := (h.2.2.2.2 o ho).2.2 z hz; cases this⟩⟩
theorem dKind8.mono {ks : List Str} {k : Kind} (h : dKind8 [] k) : dKind8 ks k := ⟨h.1, h.2.1, h.2.2.1, h.2.2.2.1, fun s hs => ⟨(h.2.2.2.2 s hs).1, (h.2.2.2.2 s hs).2.1, (h.2.2.2.2 s hs).2.2.1, fun d hd => ((h.2.2.2.2 s hs).2.2.2 d hd).mono⟩⟩
theorem dKind.eight {ks : List Str} {k : Kind} (h : dKind ks k) : dKind8 ks k := ⟨h.1, h.2.1, h.2.2.1, h.2.2.2.1, fun s hs => ⟨(h.2.2.2.2 s hs).1, by have := (h.2.2.2.2 s hs).2.1; omega, (h.2.2.2.2 s hs).2.2.1, (h.2.2.2.2 s hs).2.2.2⟩⟩
theorem dKind8.out {ks : List Str} {k : Kind} (h : dKind8 ks k) {o : Out} (ho : o ∈ k.2.flatMap fun s => s.2.2.flatMap (·.2)) : dOut (k.2.map (·.1)) ks o := by
  obtain ⟨s, hs, d, hd, h1⟩ := mem_outs ho
  exact ((h.2.2.2.2 s hs).2.2.2 d hd).2.2.2.2 o h1
/-- the states of another kind in the place of those of the kind of a name -/
def stead1 (z : Str) (ss : List State) (k : Kind) : Kind := if (k.1 == z) = true then (z, ss) else k
def stead (bk : List Kind) (z : Str) (ss : List State) : List Kind := bk.map (stead1 z ss)
end
end Ev
namespace Ev
open PySem PySem.Spec PyProof.Rows L2
/-! Fw216: dicts walked: keys, values, items; k in d. -/
section
/-! ### the dict that is walked is locked from then on -/
def DLock (H1 : Hp) (d : Addr) (R : Obj → List (Key × V) → Hp → Prop) : Prop :=
  (∃ kvs, H1 d = some (.dK kvs) ∧ ∀ o, R o kvs (upd H1 d (.frz o (.dK kvs)))) ∨ ∃ o kvs, H1 d = some (.frz o (.dK kvs)) ∧ R o kvs H1
section
variable {X : Cx} {tg e : Expr} {td : TE} {apos cpos : Pos}
theorem DLock.run {pins : List (Addr × Obj)} {σ : L2.St} {H1 : Hp} {s : Shared} {d : Addr} {R : Obj → List (Key × V) → Hp → Prop} (I : Inv X pins σ H1 s) (h : DLock H1 d R) : ∃ o kvs H2, Inv X pins σ H2 s ∧ H2 d = some (.frz o (.dK kvs)) ∧ R o kvs H2 := by
  rcases h with ⟨kvs, hd, q⟩ | ⟨o, kvs, hd, q⟩
  · obtain ⟨o, I2⟩ := I.lock hd trivial
    exact ⟨o, kvs, _, I2, upd_same, q o⟩
  · exact ⟨o, kvs, H1, I, hd, q⟩
end
/-! ### as data -/
def kPV : Key → PV
  | .inl i => .int i
  | .inr x => .str x
def kOk : Key → Bool
  | .inl _ => true
  | .inr x => decide (SOk x)
def dW (f : Key × PV → PV) (x : PV) (S : Store) : Res LI := match x with
  | .ref j => match S[j]? with
    | some (.dic kvs) => if (kvs.all fun p => kOk p.1) = true then .ok (kvs.map f, some (.dic j kvs)) (S.set j (.dicW kvs)) else .bad
    | some (.dicW kvs) => if (kvs.all fun p => kOk p.1) = true then .ok (kvs.map f, some (.dic j kvs)) S else .bad
    | _ => .bad
  | _ => .bad
def iDic (f : Key × PV → PV) (e : TV) : TIt := fun ρ S => (e ρ S).bind fun x S1 => dW f x S1
def fKeys (p : Key × PV) : PV := kPV p.1
section
variable {K : PySem.W.Frag} {cm : CM} {μ : List Addr} {S : Store} {H : Hp}
end
section
variable {X : Cx} {W : WX} {a b e : Expr} {ea eb ev : TV} {pos apos cpos : Pos} {tg : Expr}
/-! ### k in d -/
def oDIn (neg : Bool) (x y : PV) (S : Store) : Option PV := match y, keyOf x with
  | .ref j, some k => (dicAt S j).map fun kvs => .bl (neg != (valP kvs k).isSome)
  | _, _ => none
end
/-! ### one step each -/
section
variable {E : PX → Store → Prop} {ρ : Env'} {S : Store} {f : Key × PV → PV} {e : TV} {j : Nat} {kvs : List (Key × PV)}
end
end
/-! Fw217: dicts whose keys are tuples, nested. -/
section
section
variable {X : Cx} {pins : List (Addr × Obj)} {σ : L2.St} {H : Hp} {s : Shared} {μ : List Addr}
end
/-! ### as data -/
def dicNAt (S : Store) (j : Nat) : Option (List (PV × PV)) := match S[j]? with
  | some (.dicN kvs) => some kvs
  | some (.dicM kvs) => some kvs
  | _ => none
def valN (kvs : List (PV × PV)) (n : NestedKey) : Option PV := (kvs.find? fun p => decide (p.1.nk = some n)).map (·.2)
def putN (kvs : List (PV × PV)) (k : PV) (n : NestedKey) (y : PV) : List (PV × PV) :=
  if (kvs.any fun p => decide (p.1.nk = some n)) = true then kvs.map (fun p => if p.1.nk = some n then (p.1, y) else p) else kvs ++ [(k, y)]
/-- a tuple as a key -/
def keyN (x : PV) : Option NestedKey := match x with
  | .tup xs => match PV.nk (.tup xs) with
    | some n => if n.depth ≤ 8 then some n else none
    | none => none
  | _ => none
section
variable {K : PySem.W.Frag} {cm : CM} {μ : List Addr} {S : Store} {H : Hp}
theorem RNs.length {kvs : List (PV × PV)} {xs : List (NestedKey × Addr × Value)} (r : RNs K μ H kvs xs) : kvs.length = xs.length := Paired.length r
theorem RNs.val {kvs : List (PV × PV)} {xs : List (NestedKey × Addr × Value)} (r : RNs K μ H kvs xs) (n : NestedKey) : (valN kvs n = none ∧ atKey xs n = none) ∨ ∃ x p u, valN kvs n = some x ∧ atKey xs n = some p ∧ RelV u p.2 ∧ RV K μ H x u := by
  induction r with
  | nil => exact .inl ⟨rfl, rfl⟩
  | @cons p q _ _ h t ih =>
    obtain ⟨h1, h2, h3, u, h4, h5⟩ := h
    by_cases e : q.1 = n
    · refine .inr ⟨p.2, q.2, u, ?_, ?_, h4, h5⟩
      · simp [valN, List.find?_cons, h1, e]
      · simp [atKey, List.find?_cons, e]
    · have e1 : ¬ p.1.nk = some n := by rw [h1]; exact fun z => e (Option.some.inj z)
      have v1 : ∀ l, valN (p :: l) n = valN l n := fun l => by simp [valN, List.find?_cons, e1]
      have v2 : ∀ l, atKey (q :: l) n = atKey l n := fun l => by simp [atKey, List.find?_cons, e]
      rw [v1, v2]
      exact ih
theorem RNs.has {kvs : List (PV × PV)} {xs : List (NestedKey × Addr × Value)} (r : RNs K μ H kvs xs) (n : NestedKey) : (kvs.any fun p => decide (p.1.nk = some n)) = (atKey xs n).isSome := by
  induction r with
  | nil => rfl
  | @cons p q _ _ h t ih =>
    rw [List.any_cons, ih, h.1]
    by_cases e : q.1 = n
    · simp [atKey, List.find?_cons, e]
    · have : ¬ (some q.1 = some n) := fun z => e (Option.some.inj z)
      simp [atKey, List.find?_cons, e]
theorem RNs.put {kvs : List (PV × PV)} {xs : List (NestedKey × Addr × Value)} (r : RNs K μ H kvs xs) {k y : PV} {n : NestedKey} {b : Addr} {v : V} {u : Value} (hk : k.nk = some n) (hd : n.depth ≤ 8) (rk : RV K μ H k (.ref b)) (ru : RelV v u) (ry : RV K μ H y v) : RNs K μ H (putN kvs k n y) (storedH xs n b u) := by
  unfold putN storedH
  rw [r.has n]
  split
  · rename_i h0
    clear h0
    induction r with
    | nil => exact .nil
    | @cons p q _ _ h t ih =>
      rw [List.map_cons, List.map_cons]
      refine .cons ?_ ih
      have pu : PySem.putAt n u q = if q.1 = n then (q.1, q.2.1, u) else q := rfl
      rw [pu]
      by_cases e : q.1 = n
      · rw [if_pos (by rw [h.1, e]), if_pos e]; exact ⟨h.1, h.2.1, h.2.2.1, v, ru, ry⟩
      · rw [if_neg (by rw [h.1]; exact fun z => e (Option.some.inj z)), if_neg e]; exact h
  · rename_i h0
    clear h0
    induction r with
    | nil => exact .cons ⟨hk, hd, rk, v, ru, ry⟩ .nil
    | cons h t ih => exact .cons h ih
end
section
variable {X : Cx} {W : WX} {a b c d e o i : Expr} {ea eb ec ed ev vo vi ve : TV} {pos apos cpos tpos : Pos} {tg : Expr}
/-! ### d[k] -/
def oNIdx (x i : PV) (S : Store) : Option PV := match x, keyN i with
  | .ref j, some n => (dicNAt S j).bind fun kvs => valN kvs n
  | _, _ => none
/-! ### d[k] = v -/
def storeN (o i v : PV) (S : Store) : Option Store := match o, keyN i with
  | .ref j, some n => match S[j]? with
    | some (.dicN kvs) => if kvs.length < sizeLine then some (S.set j (.dicN (putN kvs i n v))) else none
    | _ => none
  | _, _ => none
def sSubN (o i v : TV) : TSt := fun ρ S => (v ρ S).sr ρ fun y S => (o ρ S).sr ρ fun x S => (i ρ S).sr ρ fun k S => match storeN x k y S with
  | some S' => .nx ρ S'
  | none => .bad
/-! ### k in d -/
def oNIn (neg : Bool) (x y : PV) (S : Store) : Option PV := match y, keyN x with
  | .ref j, some n => (dicNAt S j).map fun kvs => .bl (neg != (valN kvs n).isSome)
  | _, _ => none
/-! ### {} -/
def vDicN0 : TV := fun _ S => .ok (.ref S.length) (S ++ [.dicN []])
end
end
/-! Fw218: list(d), d == {}, {(k, ..): v}. -/
section
section
variable {X : Cx} {W : WX} {a b e : Expr} {ea eb ev : TV} {pos apos cpos : Pos}
/-! ### list(d) -/
/-! ### d == {} -/
/-! ### {(k, ..): v} -/
end
end
end Ev
namespace Ev
open PySem PySem.Spec PyProof.Rows L2 SX
/-! Fw219: sorted(d), d a dict whose keys are tuples. -/
/-! Fw220: what one kind answers where another stands: the dicts of it. -/
section
/-! ### rules -/
section
variable {P : PV → Prop} {S : Store} {E : PX → Store → Prop} {ρ : Env'} {Q : PV → Store → Prop}
end
/-! ### nexts_of -/
def nx (os : List Out) : List (Key × PV) := os.map fun o => ((Sum.inr o.1 : Key), eO o.2.1)
end
/-! Fw221: what is amiss, by a deed. -/
/-! Fw222: all that is amiss; the steps that two kinds take together. -/
/-! Fw223: the steps that two kinds take together. -/
/-! Fw224: which kinds hand something back. -/
section
section
variable {Q : PV → Store → Prop} {E : PX → Store → Prop} {S0 : Store}
end
end
/-! Fw225: pairs of states as keys of a dict. -/
section
def eP2 (p : Str × Str) : PV := .tup [.str p.1, .str p.2]
def nP2 (p : Str × Str) : NestedKey := .tup [.text p.1, .text p.2]
theorem nk_p2 (p : Str × Str) : (eP2 p).nk = some (nP2 p) := by
  simp [eP2, nP2, PV.nk, PV.nks]
end
/-! Fw226: where one kind stands in for another. -/
/-! Fw227: kinds that hand something back are refused. -/
/-! Fw228: the places of a kind's outs. -/
/-! Fw229: a drawn kind that hands nothing back is what the walk asks for. -/
section
end
/-! Fw230: a ring of states. -/
/-! Fw231: the copies of a state. -/
section
/-- at jc a dict: by each state z of st the list at ad z, of the names cp z -/
structure Cps (i jc : Nat) (st : List Str) (cp : Str → List Str) (ad : Str → Nat) (S : Store) : Prop where
  ne : jc ≠ i
  dc : S[jc]? = some (.dic (st.map fun z => ((Sum.inr z : Key), PV.ref (ad z))))
  li : ∀ z ∈ st, ad z ≠ i ∧ S[ad z]? = some (.lst ((cp z).map .str)) ∧ 1 ≤ (cp z).length ∧ (cp z).length ≤ 8
end
/-! Fw232 -/
section
theorem Br.both {x : Bool} {A B : Prop} (a : x = true → A) (b : x = false → B) : Br x A B := ⟨a, b⟩
section
variable {Q : PV → Store → Prop} {E : PX → Store → Prop} {S0 : Store}
theorem Cps.fr {i jc : Nat} {st : List Str} {cp : Str → List Str} {ad : Str → Nat} {S T : Store} (c : Cps i jc st cp ad S) (F : Fr isWell i S T) : Cps i jc st cp ad T :=
  ⟨c.ne, F.of c.dc c.ne, fun z hz => ⟨(c.li z hz).1, F.of (c.li z hz).2.1 (c.li z hz).1, (c.li z hz).2.2⟩⟩
end
end
/-! Fw233 -/
/-! Fw234 -/
section
/-- the copies while they are made: names left at j5, the dict at j6 -/
structure CpI (i j5 j6 n0 : Nat) (zs : List Str) (cp : Str → List Str) (ad : Str → Nat) (rem nm8 : List Str) (X : Store) : Prop where
  n5 : X[j5]? = some (.lst (rem.map .str))
  d6 : X[j6]? = some (.dic (zs.map fun z => ((Sum.inr z : Key), PV.ref (ad z))))
  li : ∀ z ∈ zs, n0 ≤ ad z ∧ ad z ≠ j5 ∧ ad z ≠ j6 ∧ X[ad z]? = some (.lst ((cp z).map .str)) ∧ 1 ≤ (cp z).length ∧ (cp z).length ≤ 8
  al : zs.flatMap cp ++ rem = nm8
theorem CpI.fr {i j5 j6 n0 : Nat} {zs : List Str} {cp : Str → List Str} {ad : Str → Nat} {rem nm8 : List Str} {X Y : Store} (c : CpI i j5 j6 n0 zs cp ad rem nm8 X) (F : Fr isWell i X Y) (h0 : i < n0) (h5 : n0 ≤ j5) (h6 : n0 ≤ j6) : CpI i j5 j6 n0 zs cp ad rem nm8 Y where
  n5 := F.of c.n5 (by omega)
  d6 := F.of c.d6 (by omega)
  li := fun z hz => by
    obtain ⟨a1, a2, a3, a4, a5⟩ := c.li z hz
    exact ⟨a1, a2, a3, F.of a4 (by omega), a5⟩
  al := c.al
def upF {α : Type} (f : Str → α) (z : Str) (a : α) : Str → α := fun y => if y = z then a else f y
theorem upF_at {α : Type} (f : Str → α) (z : Str) (a : α) : upF f z a z = a := if_pos rfl
theorem upF_ne {α : Type} {f : Str → α} {z y : Str} {a : α} (h : y ≠ z) : upF f z a y = f y := if_neg h
theorem flatMap_up {zs : List Str} {z : Str} (h : z ∉ zs) (cp : Str → List Str) (a : List Str) : zs.flatMap (upF cp z a) = zs.flatMap cp := by
  induction zs with
  | nil => rfl
  | cons y zs ih =>
    rw [List.flatMap_cons, List.flatMap_cons, ih fun h2 => h (List.mem_cons_of_mem _ h2), upF_ne fun e => h (by rw [e]; simp)]
theorem CpI.two {i j5 j6 n0 : Nat} {zs : List Str} {cp : Str → List Str} {ad : Str → Nat} {b a : Str} {rem nm8 : List Str} {X Z : Store} {z : Str} (c : CpI i j5 j6 n0 (zs ++ [z]) cp ad (b :: rem) nm8 X) (hz : z ∉ zs) (hcp : cp z = [a]) (h56 : j5 ≠ j6) (hd : ∀ y ∈ zs, ad y ≠ ad z) (hZ : Z = X.set j5 (.lst (rem.map .str))) :
    CpI i j5 j6 n0 (zs ++ [z]) (upF cp z [a, b]) ad rem nm8 (Z.set (ad z) (.lst ([a, b].map .str))) := by
  obtain ⟨z1, z2, z3, z4, z5⟩ := c.li z (by simp)
  have zZ : Z[ad z]? = some (.lst ((cp z).map .str)) := by rw [hZ, List.getElem?_set_ne (Ne.symm z2)]; exact z4
  refine ⟨?_, ?_, fun y hy => ?_, ?_⟩
  · rw [List.getElem?_set_ne z2, hZ]; exact get_set c.n5
  · rw [List.getElem?_set_ne z3, hZ, List.getElem?_set_ne h56]; exact c.d6
  · by_cases e : y = z
    · subst e
      rw [upF_at]
      exact ⟨z1, z2, z3, get_set zZ, by simp, by simp⟩
    · have hy' : y ∈ zs := by
        rcases List.mem_append.mp hy with h | h
        · exact h
        · exact absurd (List.mem_singleton.mp h) e
      rw [upF_ne e]
      obtain ⟨a1, a2, a3, a4, a5⟩ := c.li y hy
      refine ⟨a1, a2, a3, ?_, a5⟩
      rw [List.getElem?_set_ne (Ne.symm (hd y hy')), hZ, List.getElem?_set_ne (Ne.symm a2)]; exact a4
  · have := c.al
    rw [List.flatMap_append, List.flatMap_cons, List.flatMap_nil, hcp] at this
    rw [List.flatMap_append, flatMap_up hz, List.flatMap_cons, List.flatMap_nil, upF_at, ← this]
    simp
end
/-! Fw235 -/
/-! Fw236 -/
/-! Fw237 -/
/-! Fw238 -/
end Ev
namespace Ev
open PySem PySem.Spec PyProof.Rows L2
/-! Fw239: d.setdefault(k, x), sorted(d) of a dict with text keys. -/
section
section
variable {X : Cx} {W : WX} {a b e : Expr} {ea eb ev : TV} {pos apos cpos : Pos}
/-! ### d.setdefault(k, x) -/
def dsetd (j : Nat) (y u : PV) (S : Store) : Res PV := match S[j]?, keyOf y with
  | some (.dic kvs), some k => if kvs.length < sizeLine then match valP kvs k with
    | some v => .ok v S
    | none => .ok u (S.set j (.dic (putP kvs k u)))
    else .bad
  | _, _ => .bad
def vDSetD (d k z : TV) : TV := fun ρ S => (d ρ S).bind fun x S1 => match x with
  | .ref j => match S1[j]? with
    | some (.dic _) => (k ρ S1).bind fun y S2 => (z ρ S2).bind fun u S3 => dsetd j y u S3
    | _ => .bad
  | _ => .bad
end
/-! ### sorted(d), the keys texts -/
section
variable {prog : Program} {w : World} {A : Around} {E : Value → Shared → Prop} {s : Shared} {d : Addr} {kvs : List (Key × Value)} {ep : Nat} {ss : List Str}
end
/-- the keys, if all are texts -/
def strKeys : List (Key × PV) → Option (List Str)
  | [] => some []
  | (.inr x, _) :: r => (strKeys r).map fun l => x :: l
  | _ => none
noncomputable def fSortD (args : List PV) (S : Store) : Option (List PV) := match args with
  | [.ref j] => match (dicAt S j).bind strKeys with
    | some ss => if (ss.Nodup ∧ ss.length < 64) ∧ ∀ x ∈ ss, SOk x then some ((sortU ss).map .str) else none
    | none => none
  | _ => none
theorem RKs.keys {K : PySem.W.Frag} {μ : List Addr} {H : Hp} {κ : Type} {kvs : List (κ × PV)} {kv : List (κ × V)} (r : RKs K μ H kvs kv) : kv.map (·.1) = kvs.map (·.1) := by
  induction r with
  | nil => rfl
  | cons h t ih => rw [List.map_cons, List.map_cons, ih, h.1]
section
variable {X : Cx}
end
end
end Ev
namespace Ev
open PySem PySem.Spec PyProof.Rows L2 SX
/-! Fw240 -/
section
/-! ### a deck: a dict of three numbers; its turn is at most n -/
def yd (d t s : Int) : PObj := .dic [((Sum.inr "digits" : Key), .int d), ((Sum.inr "turn" : Key), .int t), ((Sum.inr "seed" : Key), .int s)]
def yN (n : Nat) (o : PObj) : Prop := ∃ d t s : Int, o = yd d t s ∧ 0 ≤ t ∧ t ≤ (n : Int)
theorem yN.low {n : Nat} {o : PObj} (m : Nat) (h : yN n o) : o.low m = true := by
  obtain ⟨d, t, s, rfl, _⟩ := h; rfl
theorem yN.le {n m : Nat} (h : n ≤ m) {o : PObj} (y : yN n o) : yN m o := by
  obtain ⟨d, t, s, e, h1, h2⟩ := y
  exact ⟨d, t, s, e, h1, by omega⟩
def HasN (i n : Nat) (S : Store) : Prop := ∃ o, S[i]? = some o ∧ yN n o
theorem HasN.lt {i n : Nat} {S : Store} (h : HasN i n S) : i < S.length := by
  obtain ⟨o, h, _⟩ := h; exact lt_of_get h
theorem HasN.le {i n m : Nat} {S : Store} (h : HasN i n S) (hm : n ≤ m) : HasN i m S := by
  obtain ⟨o, h, y⟩ := h; exact ⟨o, h, y.le hm⟩
theorem Fr.tr {P P' : PObj → Prop} {i : Nat} {S T U : Store} (a : Fr P i S T) (b : Fr P' i T U) : Fr P' i S U := ⟨Nat.le_trans a.le b.le, fun j hj hi => (b.get j (Nat.lt_of_lt_of_le hj a.le) hi).trans (a.get j hj hi), b.own⟩
theorem Fr.up {n m i : Nat} {S T : Store} (a : Fr (yN n) i S T) (h : n ≤ m) : Fr (yN m) i S T := ⟨a.le, a.get, HasN.le a.own h⟩
section
variable {Q : PV → Store → Prop} {E : PX → Store → Prop} {S : Store}
end
end
/-! Fw241 -/
section
section
variable {Q : PV → Store → Prop} {E : PX → Store → Prop} {S0 : Store}
end
end
/-! Fw242 -/
section
/-- a word that may be a name -/
def yw (z : Str) : Prop := good z ∧ z ∉ barL
theorem yw.nm {z : Str} (h : yw z) : nm (.str z) = true := nm_good h.1 h.2
section
variable {Q : PV → Store → Prop} {E : PX → Store → Prop} {S0 : Store}
end
end
/-! Fw243 -/
section
section
variable {Q : PV → Store → Prop} {E : PX → Store → Prop} {S0 : Store}
end
end
/-! Fw244 -/
section
section
variable {Q : PV → Store → Prop} {E : PX → Store → Prop} {S0 : Store}
end
end
/-! Fw245 -/
section
/-! ### entries of a dict -/
theorem valP_app (k : Key) (v : PV) : ∀ (kvs : List (Key × PV)) (k' : Key), valP (kvs ++ [(k, v)]) k' = match valP kvs k' with | some y => some y | none => if k' = k then some v else none
  | [], k' => by
    show valP [(k, v)] k' = if k' = k then some v else none
    by_cases e : k = k'
    · rw [valP_pos e, if_pos e.symm]
    · rw [valP_neg e, if_neg (Ne.symm e)]; rfl
  | p :: r, k' => by
    rw [List.cons_append]
    by_cases e : p.1 = k'
    · rw [valP_pos e, valP_pos e]
    · rw [valP_neg e, valP_neg e]; exact valP_app k v r k'
theorem valP_map (k : Key) (v : PV) : ∀ (kvs : List (Key × PV)) (k' : Key), valP (kvs.map fun kv => if kv.1 = k then (kv.1, v) else kv) k' = match valP kvs k' with | some y => some (if k' = k then v else y) | none => none
  | [], k' => rfl
  | p :: r, k' => by
    rw [List.map_cons]
    by_cases e : p.1 = k'
    · by_cases e2 : p.1 = k
      · rw [if_pos e2, valP_pos (p := (p.1, v)) e, valP_pos e]
        dsimp only
        rw [if_pos (e.symm.trans e2)]
      · rw [if_neg e2, valP_pos e, valP_pos e]
        dsimp only
        rw [if_neg fun h => e2 (e.trans h)]
    · rw [valP_neg (p := p) (r := r) e, ← valP_map k v r k']
      split
      · exact valP_neg e
      · exact valP_neg e
theorem valP_none {kvs : List (Key × PV)} {k : Key} (h : ¬ (kvs.any fun kv => decide (kv.1 = k)) = true) : valP kvs k = none := by
  unfold valP
  rw [List.find?_eq_none.mpr fun x hx hk => h (List.any_eq_true.mpr ⟨x, hx, hk⟩)]; rfl
theorem valP_some {kvs : List (Key × PV)} {k : Key} (h : (kvs.any fun kv => decide (kv.1 = k)) = true) : ∃ y, valP kvs k = some y := by
  obtain ⟨x, hx, hk⟩ := List.any_eq_true.mp h
  unfold valP
  cases hf : kvs.find? fun kv => decide (kv.1 = k) with
  | none => exact absurd hk (by have := List.find?_eq_none.mp hf x hx; simpa using this)
  | some y => exact ⟨y.2, rfl⟩
theorem valP_put (kvs : List (Key × PV)) (k : Key) (v : PV) (k' : Key) : valP (putP kvs k v) k' = if k' = k then some v else valP kvs k' := by
  unfold putP
  split
  · rename_i h
    rw [valP_map]
    by_cases e : k' = k
    · subst e
      obtain ⟨y, hy⟩ := valP_some h
      rw [hy, if_pos rfl]
      dsimp only
      rw [if_pos rfl]
    · rw [if_neg e]
      cases valP kvs k' with
      | none => rfl
      | some y => dsimp only; rw [if_neg e]
  · rename_i h
    rw [valP_app]
    by_cases e : k' = k
    · subst e
      rw [valP_none h]
    · simp only [if_neg e]
      cases valP kvs k' with
      | none => rfl
      | some y => rfl
theorem putP_len (kvs : List (Key × PV)) (k : Key) (v : PV) : (putP kvs k v).length ≤ kvs.length + 1 := by
  unfold putP
  split
  · rw [List.length_map]; omega
  · rw [List.length_append]; simp
section
variable {Q : PV → Store → Prop} {E : PX → Store → Prop} {ρ : Env'} {S : Store} {d k z : TV}
end
/-! ### what a kind's deeds lead to, as texts -/
def nxT (o : Out) : Str := o.2.1.getD ""
def fN (sts : List State) (x d : Str) : Option (List Str) := (sts.find? fun s => s.1 == x).bind fun s => (s.2.2.find? fun e => e.1 == d).map fun e => e.2.map nxT
def updF (F : Str → Str → Option (List Str)) (x d : Str) (l : List Str) : Str → Str → Option (List Str) := fun x' d' => if x' = x ∧ d' = d then some l else F x' d'
/-- at j a dict of dicts of lists that tells F; all of it stands behind n0 -/
structure NB (j n0 m : Nat) (F : Str → Str → Option (List Str)) (T : Store) : Prop where
  ge : n0 ≤ j
  top : ∃ kvs, T[j]? = some (.dic kvs) ∧ kvs.length ≤ m ∧ (∀ d d' a, valP kvs (.inr d) = some (.ref a) → valP kvs (.inr d') = some (.ref a) → d = d') ∧
    ∀ d, (valP kvs (.inr d) = none ∧ ∀ x, F x d = none) ∨ ∃ a row, valP kvs (.inr d) = some (.ref a) ∧ n0 ≤ a ∧ a ≠ j ∧ T[a]? = some (.dic row) ∧ row.length ≤ m ∧
      ∀ x, (valP row (.inr x) = none ∧ F x d = none) ∨ ∃ b l, valP row (.inr x) = some (.ref b) ∧ n0 ≤ b ∧ T[b]? = some (.lst (l.map .str)) ∧ F x d = some l
theorem NB.kp {j n0 m : Nat} {F : Str → Str → Option (List Str)} {T U : Store} (h : NB j n0 m F T) (k : Kp T U) : NB j n0 m F U := by
  obtain ⟨kvs, g, hl, inj, h2⟩ := h.top
  refine ⟨h.ge, kvs, k.at g, hl, inj, fun d => ?_⟩
  rcases h2 d with h3 | ⟨a, row, h3, h4, h5, h6, h7, h8⟩
  · exact .inl h3
  · refine .inr ⟨a, row, h3, h4, h5, k.at h6, h7, fun x => ?_⟩
    rcases h8 x with h9 | ⟨b, l, h9, h10, h11, h12⟩
    · exact .inl h9
    · exact .inr ⟨b, l, h9, h10, k.at h11, h12⟩
theorem NB.congr {j n0 m m' : Nat} {F F' : Str → Str → Option (List Str)} {T : Store} (h : NB j n0 m F T) (e : ∀ x d, F' x d = F x d) (hm : m ≤ m') : NB j n0 m' F' T := by
  obtain ⟨kvs, g, hl, inj, h2⟩ := h.top
  refine ⟨h.ge, kvs, g, by omega, inj, fun d => ?_⟩
  rcases h2 d with h3 | ⟨a, row, h3, h4, h5, h6, h7, h8⟩
  · exact .inl ⟨h3.1, fun x => by rw [e]; exact h3.2 x⟩
  · exact .inr ⟨a, row, h3, h4, h5, h6, by omega, fun x => by rw [e]; exact h8 x⟩
/-- a new deed -/
theorem NB.new {j n0 m : Nat} {F : Str → Str → Option (List Str)} {T : Store} {kvs : List (Key × PV)} (h : NB j n0 m F T) (g : T[j]? = some (.dic kvs)) (hn0 : n0 ≤ T.length) {x d : Str} {l : List Str} (hd : valP kvs (.inr d) = none) :
    NB j n0 (m + 1) (updF F x d l) ((((T ++ [PObj.lst (l.map .str)]) ++ [PObj.dic []]).set j (.dic (putP kvs (.inr d) (.ref (T.length + 1))))).set (T.length + 1) (.dic (putP [] (.inr x) (.ref T.length)))) := by
  obtain ⟨kvs', g', hl, inj, h2⟩ := h.top
  rw [g] at g'
  cases g'
  have jl := lt_of_get g
  have old : ∀ (c : Nat) (o : PObj), c ≠ j → T[c]? = some o → ((((T ++ [PObj.lst (l.map .str)]) ++ [PObj.dic []]).set j (.dic (putP kvs (.inr d) (.ref (T.length + 1))))).set (T.length + 1) (.dic (putP [] (.inr x) (.ref T.length))))[c]? = some o := fun c o hc e => by
    have := lt_of_get e
    rw [List.getElem?_set_ne (by omega), List.getElem?_set_ne (Ne.symm hc)]
    exact get_app_lt (get_app_lt e)
  have gj : ((T ++ [PObj.lst (l.map PV.str)]) ++ [PObj.dic []])[j]? = some (.dic kvs) := get_app_lt (get_app_lt g)
  have g1 : ((T ++ [PObj.lst (l.map PV.str)]) ++ [PObj.dic []])[T.length + 1]? = some (.dic []) := by
    have := get_app (T ++ [PObj.lst (l.map PV.str)]) [] (PObj.dic [])
    simpa using this
  refine ⟨h.ge, putP kvs (.inr d) (.ref (T.length + 1)), by rw [List.getElem?_set_ne (by omega)]; exact get_set gj, by have := putP_len kvs (.inr d) (.ref (T.length + 1)); omega, fun d1 d2 a e1 e2 => ?_, fun d' => ?_⟩
  · rw [valP_put] at e1 e2
    have lt : ∀ d', valP kvs (.inr d') = some (.ref a) → a < T.length := fun d' e => by
      rcases h2 d' with h3 | ⟨a', row, h3, h4, h5, h6, _⟩
      · rw [h3.1] at e; cases e
      · rw [h3] at e; cases e; exact lt_of_get h6
    by_cases c1 : (Sum.inr d1 : Key) = .inr d <;> by_cases c2 : (Sum.inr d2 : Key) = .inr d
    · exact (Sum.inr.inj c1).trans (Sum.inr.inj c2).symm
    · rw [if_pos c1] at e1
      rw [if_neg c2] at e2
      cases e1
      have := lt _ e2
      omega
    · rw [if_neg c1] at e1
      rw [if_pos c2] at e2
      cases e2
      have := lt _ e1
      omega
    · rw [if_neg c1] at e1
      rw [if_neg c2] at e2
      exact inj _ _ _ e1 e2
  · rw [valP_put]
    by_cases c : d' = d
    · subst c
      rw [if_pos rfl]
      refine .inr ⟨T.length + 1, _, rfl, by omega, by omega, get_set (by rw [List.getElem?_set_ne (by omega)]; exact g1), by have := putP_len [] (.inr x) (.ref T.length); simp at this; omega, fun x' => ?_⟩
      rw [valP_put]
      rcases h2 d' with h3 | ⟨a, row, h3, _⟩
      · by_cases cx : x' = x
        · subst cx
          rw [if_pos rfl]
          refine .inr ⟨T.length, l, rfl, hn0, ?_, if_pos ⟨rfl, rfl⟩⟩
          rw [List.getElem?_set_ne (by omega), List.getElem?_set_ne (by omega)]
          exact get_app_lt (get_app _ _ _)
        · rw [if_neg fun e => cx (Sum.inr.inj e)]
          exact .inl ⟨rfl, (if_neg fun e => cx e.1).trans (h3.2 x')⟩
      · rw [hd] at h3; cases h3
    · rw [if_neg fun e => c (Sum.inr.inj e)]
      have uf : ∀ x', updF F x d l x' d' = F x' d' := fun x' => if_neg fun e => c e.2
      rcases h2 d' with h3 | ⟨a, row, h3, h4, h5, h6, h7, h8⟩
      · exact .inl ⟨h3.1, fun x' => (uf x').trans (h3.2 x')⟩
      · refine .inr ⟨a, row, h3, h4, h5, old a _ h5 h6, by omega, fun x' => ?_⟩
        rw [uf]
        rcases h8 x' with h9 | ⟨b, l', h9, h10, h11, h12⟩
        · exact .inl h9
        · exact .inr ⟨b, l', h9, h10, old b _ (fun e => by rw [e, g] at h11; cases h11) h11, h12⟩
/-- a deed that stands there -/
theorem NB.old {j n0 m : Nat} {F : Str → Str → Option (List Str)} {T : Store} {kvs row : List (Key × PV)} {a : Nat} (h : NB j n0 m F T) (g : T[j]? = some (.dic kvs)) (hn0 : n0 ≤ T.length) {x d : Str} {l : List Str} (hd : valP kvs (.inr d) = some (.ref a)) (ga : T[a]? = some (.dic row)) :
    NB j n0 (m + 1) (updF F x d l) (((T ++ [PObj.lst (l.map .str)]) ++ [PObj.dic []]).set a (.dic (putP row (.inr x) (.ref T.length)))) := by
  obtain ⟨kvs', g', hl, inj, h2⟩ := h.top
  rw [g] at g'
  cases g'
  have jl := lt_of_get g
  have al := lt_of_get ga
  have aj : a ≠ j := by
    rcases h2 d with h3 | ⟨a', row', h3, h4, h5, _⟩
    · rw [h3.1] at hd; cases hd
    · rw [h3] at hd; cases hd; exact h5
  have old : ∀ (c : Nat) (o : PObj), c ≠ a → T[c]? = some o → (((T ++ [PObj.lst (l.map .str)]) ++ [PObj.dic []]).set a (.dic (putP row (.inr x) (.ref T.length))))[c]? = some o := fun c o hc e => by
    rw [List.getElem?_set_ne (Ne.symm hc)]
    exact get_app_lt (get_app_lt e)
  refine ⟨h.ge, kvs, old j _ (Ne.symm aj) g, by omega, inj, fun d' => ?_⟩
  by_cases c : d' = d
  · subst c
    rcases h2 d' with h3 | ⟨a', row', h3, h4, h5, h6, h7, h8⟩
    · rw [h3.1] at hd; cases hd
    · rw [h3] at hd
      cases hd
      rw [ga] at h6
      cases h6
      refine .inr ⟨a, _, h3, h4, h5, get_set (get_app_lt (get_app_lt ga)), by have := putP_len row (.inr x) (.ref T.length); omega, fun x' => ?_⟩
      rw [valP_put]
      by_cases cx : x' = x
      · subst cx
        rw [if_pos rfl]
        refine .inr ⟨T.length, l, rfl, hn0, ?_, if_pos ⟨rfl, rfl⟩⟩
        rw [List.getElem?_set_ne (by omega)]
        exact get_app_lt (get_app _ _ _)
      · rw [if_neg fun e => cx (Sum.inr.inj e)]
        have uf : updF F x d' l x' d' = F x' d' := if_neg fun e => cx e.1
        rw [uf]
        rcases h8 x' with h9 | ⟨b, l', h9, h10, h11, h12⟩
        · exact .inl h9
        · exact .inr ⟨b, l', h9, h10, old b _ (fun e => by rw [e, ga] at h11; cases h11) h11, h12⟩
  · have uf : ∀ x', updF F x d l x' d' = F x' d' := fun x' => if_neg fun e => c e.2
    rcases h2 d' with h3 | ⟨a', row', h3, h4, h5, h6, h7, h8⟩
    · exact .inl ⟨h3.1, fun x' => (uf x').trans (h3.2 x')⟩
    · have na : a' ≠ a := fun e => c (inj d' d a (e ▸ h3) hd)
      refine .inr ⟨a', row', h3, h4, h5, old a' _ na h6, by omega, fun x' => ?_⟩
      rw [uf]
      rcases h8 x' with h9 | ⟨b, l', h9, h10, h11, h12⟩
      · exact .inl h9
      · exact .inr ⟨b, l', h9, h10, old b _ (fun e => by rw [e, ga] at h11; cases h11) h11, h12⟩
end
/-! Fw246 -/
section
section
variable {Q : PV → Store → Prop} {E : PX → Store → Prop} {S0 : Store}
end
end
/-! Fw247 -/
section
section
variable {Q : PV → Store → Prop} {E : PX → Store → Prop} {S0 : Store}
end
end
/-! Fw248 -/
section
section
variable {Q : PV → Store → Prop} {E : PX → Store → Prop} {S0 : Store}
end
end
/-! Fw249 -/
section
/-! ### entries of a dict with tuple keys -/
theorem valN_pos {p : PV × PV} {r : List (PV × PV)} {n : NestedKey} (e : p.1.nk = some n) : valN (p :: r) n = some p.2 := by simp [valN, List.find?_cons, e]
theorem valN_neg {p : PV × PV} {r : List (PV × PV)} {n : NestedKey} (e : ¬ p.1.nk = some n) : valN (p :: r) n = valN r n := by simp [valN, List.find?_cons, e]
theorem valN_app {k : PV} {n : NestedKey} (hk : k.nk = some n) (v : PV) : ∀ (kvs : List (PV × PV)) (n' : NestedKey), valN (kvs ++ [(k, v)]) n' = match valN kvs n' with | some y => some y | none => if n' = n then some v else none
  | [], n' => by
    show valN [(k, v)] n' = if n' = n then some v else none
    by_cases e : n' = n
    · rw [valN_pos (by rw [e]; exact hk), if_pos e]
    · rw [valN_neg (p := (k, v)) fun h => e (by have := hk.symm.trans h; exact (Option.some.inj this).symm), if_neg e]; rfl
  | p :: r, n' => by
    rw [List.cons_append]
    by_cases e : p.1.nk = some n'
    · rw [valN_pos e, valN_pos e]
    · rw [valN_neg e, valN_neg e]; exact valN_app hk v r n'
theorem valN_map {n : NestedKey} (v : PV) : ∀ (kvs : List (PV × PV)) (n' : NestedKey), valN (kvs.map fun p => if p.1.nk = some n then (p.1, v) else p) n' = match valN kvs n' with | some y => some (if n' = n then v else y) | none => none
  | [], n' => rfl
  | p :: r, n' => by
    rw [List.map_cons]
    by_cases e : p.1.nk = some n'
    · by_cases e2 : p.1.nk = some n
      · rw [if_pos e2, valN_pos (p := (p.1, v)) e, valN_pos e]
        dsimp only
        rw [if_pos (Option.some.inj (e.symm.trans e2))]
      · rw [if_neg e2, valN_pos e, valN_pos e]
        dsimp only
        rw [if_neg fun h => e2 (e.trans (congrArg some h))]
    · rw [valN_neg (p := p) (r := r) e, ← valN_map v r n']
      split
      · exact valN_neg e
      · exact valN_neg e
theorem valN_put {k : PV} {n : NestedKey} (hk : k.nk = some n) (kvs : List (PV × PV)) (v : PV) (n' : NestedKey) : valN (putN kvs k n v) n' = if n' = n then some v else valN kvs n' := by
  unfold putN
  split
  · rename_i h
    rw [valN_map]
    obtain ⟨x, hx, hk2⟩ := List.any_eq_true.mp h
    have hs : ∃ y, valN kvs n = some y := by
      unfold valN
      cases hf : kvs.find? fun p => decide (p.1.nk = some n) with
      | none => exact absurd hk2 (by have := List.find?_eq_none.mp hf x hx; simpa using this)
      | some y => exact ⟨y.2, rfl⟩
    by_cases e : n' = n
    · subst e
      obtain ⟨y, hy⟩ := hs
      rw [hy, if_pos rfl]
      dsimp only
      rw [if_pos rfl]
    · simp only [if_neg e]
      cases valN kvs n' with
      | none => rfl
      | some y => rfl
  · rename_i h
    rw [valN_app hk]
    have hn : valN kvs n = none := by
      unfold valN
      rw [List.find?_eq_none.mpr fun x hx hk => h (List.any_eq_true.mpr ⟨x, hx, hk⟩)]; rfl
    by_cases e : n' = n
    · subst e
      rw [hn]
    · simp only [if_neg e]
      cases valN kvs n' with
      | none => rfl
      | some y => rfl
theorem putN_len (kvs : List (PV × PV)) (k : PV) (n : NestedKey) (v : PV) : (putN kvs k n v).length ≤ kvs.length + 1 := by
  unfold putN
  split
  · rw [List.length_map]; omega
  · rw [List.length_append]; simp
theorem nP2_inj2 {x d x' d' : Str} (h : nP2 (x, d) = nP2 (x', d')) : x = x' ∧ d = d' := by
  unfold nP2 at h
  simpa using h
/-- at jn a dict by pairs of texts that tells F -/
structure NxN (jn n0 m : Nat) (F : Str → Str → Option (List Str)) (T : Store) : Prop where
  top : ∃ kv, T[jn]? = some (.dicN kv) ∧ kv.length ≤ m ∧ ∀ x d, (valN kv (nP2 (x, d)) = none ∧ F x d = none) ∨ ∃ b l, valN kv (nP2 (x, d)) = some (.ref b) ∧ n0 ≤ b ∧ T[b]? = some (.lst (l.map .str)) ∧ F x d = some l
theorem NxN.keep {jn n0 m : Nat} {F : Str → Str → Option (List Str)} {T U : Store} (h : NxN jn n0 m F T) (k1 : ∀ kv, T[jn]? = some (.dicN kv) → U[jn]? = some (.dicN kv)) (k2 : ∀ b xs, n0 ≤ b → T[b]? = some (.lst xs) → U[b]? = some (.lst xs)) : NxN jn n0 m F U := by
  obtain ⟨kv, g, hl, h2⟩ := h.top
  refine ⟨kv, k1 _ g, hl, fun x d => ?_⟩
  rcases h2 x d with h3 | ⟨b, l, h3, h4, h5, h6⟩
  · exact .inl h3
  · exact .inr ⟨b, l, h3, h4, k2 _ _ h4 h5, h6⟩
theorem NxN.congr {jn n0 m m' : Nat} {F F' : Str → Str → Option (List Str)} {T : Store} (h : NxN jn n0 m F T) (e : ∀ x d, F' x d = F x d) (hm : m ≤ m') : NxN jn n0 m' F' T := by
  obtain ⟨kv, g, hl, h2⟩ := h.top
  exact ⟨kv, g, by omega, fun x d => by rw [e]; exact h2 x d⟩
theorem NxN.put {jn n0 m : Nat} {F : Str → Str → Option (List Str)} {T : Store} {kv : List (PV × PV)} (h : NxN jn n0 m F T) (g : T[jn]? = some (.dicN kv)) (hn : n0 ≤ T.length) {x d : Str} {l : List Str} :
    NxN jn n0 (m + 1) (updF F x d l) ((T ++ [PObj.lst (l.map .str)]).set jn (.dicN (putN kv (eP2 (x, d)) (nP2 (x, d)) (.ref T.length)))) := by
  obtain ⟨kv', g', hl, h2⟩ := h.top
  rw [g] at g'
  cases g'
  have jl := lt_of_get g
  refine ⟨_, get_set (get_app_lt g), by have := putN_len kv (eP2 (x, d)) (nP2 (x, d)) (.ref T.length); omega, fun x' d' => ?_⟩
  rw [valN_put (nk_p2 _)]
  by_cases c : x' = x ∧ d' = d
  · obtain ⟨rfl, rfl⟩ := c
    rw [if_pos rfl]
    exact .inr ⟨T.length, l, rfl, hn, by rw [List.getElem?_set_ne (by omega)]; exact get_app _ _ _, if_pos ⟨rfl, rfl⟩⟩
  · rw [if_neg fun e => c (nP2_inj2 e)]
    have uf : updF F x d l x' d' = F x' d' := if_neg c
    rw [uf]
    rcases h2 x' d' with h3 | ⟨b, l', h3, h4, h5, h6⟩
    · exact .inl h3
    · exact .inr ⟨b, l', h3, h4, by rw [List.getElem?_set_ne (fun e => by rw [← e, g] at h5; cases h5)]; exact get_app_lt h5, h6⟩
def rdKv (z : Str) (jr jd jn : Nat) : List (Key × PV) := [((Sum.inr "first" : Key), .tup [.str z]), ((Sum.inr "rest" : Key), .ref jr), ((Sum.inr "deeds" : Key), .ref jd), ((Sum.inr "nexts" : Key), .ref jn)]
def rsKv (sts : List State) : List (Key × PV) := ((Sum.inr "" : Key), .bl true) :: sts.map fun s => ((Sum.inr s.1 : Key), .bl s.2.1)
/-- a kind as the law reads it -/
structure RdOk (sts : List State) (z : Str) (j jr jd jn n0 : Nat) (dn : List Str) (T : Store) : Prop where
  dc : T[j]? = some (.dic (rdKv z jr jd jn))
  rs : dicAt T jr = some (rsKv sts)
  dl : T[jd]? = some (.lst (dn.map .str))
  nx : NxN jn n0 64 (fN sts) T
  ge : n0 ≤ j ∧ n0 ≤ jr ∧ n0 ≤ jd ∧ n0 ≤ jn
  ne : jr ≠ j ∧ jr ≠ jd ∧ jr ≠ jn
  dok : dn.length ≤ 8 ∧ ∀ z ∈ dn, yw z
section
variable {Q : PV → Store → Prop} {E : PX → Store → Prop} {S0 : Store}
end
end
/-! Fw250 -/
section
section
variable {Q : PV → Store → Prop} {E : PX → Store → Prop} {S0 : Store}
end
end
/-! Fw251 -/
section
/-- the deck at i draws, the dict at jr is walked; all else stays -/
structure FS (i n jr : Nat) (kv : List (Key × PV)) (S T : Store) : Prop where
  le : S.length ≤ T.length
  get : ∀ c, c < S.length → c ≠ i → c ≠ jr → T[c]? = S[c]?
  di : HasN i n T
  dj : T[jr]? = some (.dicW kv)
section
variable {i n m jr : Nat} {kv : List (Key × PV)} {S T U : Store}
theorem FS.fr (a : FS i n jr kv S T) (b : Fr (yN m) i T U) (h : jr ≠ i) : FS i m jr kv S U where
  le := Nat.le_trans a.le b.le
  get := fun c hc h1 h2 => (b.get c (Nat.lt_of_lt_of_le hc a.le) h1).trans (a.get c hc h1 h2)
  di := b.own
  dj := b.of a.dj h
theorem FS.kp (a : FS i n jr kv S T) (b : Kp T U) : FS i n jr kv S U where
  le := Nat.le_trans a.le b.le
  get := fun c hc h1 h2 => (b.get c (Nat.lt_of_lt_of_le hc a.le)).trans (a.get c hc h1 h2)
  di := by obtain ⟨o, h, y⟩ := a.di; exact ⟨o, b.at h, y⟩
  dj := b.at a.dj
theorem FS.of (a : FS i n jr kv S T) {c : Nat} {o : PObj} (h : S[c]? = some o) (h1 : c ≠ i) (h2 : c ≠ jr) : T[c]? = some o := (a.get c (lt_of_get h) h1 h2).trans h
theorem FS.up (a : FS i n jr kv S T) (h : n ≤ m) : FS i m jr kv S T := ⟨a.le, a.get, a.di.le h, a.dj⟩
theorem FS.own (a : FS i n jr kv S T) : HasN i n T := a.di
end
theorem RdOk.fr {P : PObj → Prop} {sts : List State} {z : Str} {j jr jd jn n0 i : Nat} {dn : List Str} {T U : Store} (r : RdOk sts z j jr jd jn n0 dn T) (F : Fr P i T U) (h : i < n0) : RdOk sts z j jr jd jn n0 dn U := by
  obtain ⟨g1, g2, g3, g4⟩ := r.ge
  have hjr : jr < T.length := by
    have := r.rs
    unfold dicAt at this
    cases e : T[jr]? with
    | none => rw [e] at this; cases this
    | some o => exact lt_of_get e
  refine ⟨F.of r.dc (by omega), ?_, F.of r.dl (by omega), r.nx.keep (fun kv h => F.of h (by omega)) (fun b xs hb h => F.of h (by omega)), r.ge, r.ne, r.dok⟩
  have := r.rs
  unfold dicAt at this ⊢
  rw [F.get jr hjr (by omega)]
  exact this
theorem RdOk.kp {sts : List State} {z : Str} {j jr jd jn n0 : Nat} {dn : List Str} {T U : Store} (r : RdOk sts z j jr jd jn n0 dn T) (F : Kp T U) : RdOk sts z j jr jd jn n0 dn U := by
  have hjr : jr < T.length := by
    have := r.rs
    unfold dicAt at this
    cases e : T[jr]? with
    | none => rw [e] at this; cases this
    | some o => exact lt_of_get e
  refine ⟨F.at r.dc, ?_, F.at r.dl, r.nx.keep (fun kv h => F.at h) (fun b xs hb h => F.at h), r.ge, r.ne, r.dok⟩
  have := r.rs
  unfold dicAt at this ⊢
  rw [F.get jr hjr]
  exact this
theorem RdOk.fs {sts : List State} {z : Str} {j jr jd jn n0 i n : Nat} {dn : List Str} {T U : Store} (r : RdOk sts z j jr jd jn n0 dn T) (F : FS i n jr (rsKv sts) T U) (h : i < n0) : RdOk sts z j jr jd jn n0 dn U := by
  obtain ⟨g1, g2, g3, g4⟩ := r.ge
  obtain ⟨n1, n2, n3⟩ := r.ne
  refine ⟨F.of r.dc (by omega) (by omega), dicW_at F.dj, F.of r.dl (by omega) (by omega), r.nx.keep (fun kv h => F.of h (by omega) (by omega)) (fun b xs hb h => F.of h (by omega) (fun e => ?_)), r.ge, r.ne, r.dok⟩
  have := r.rs
  unfold dicAt at this
  rw [← e, h] at this
  cases this
section
variable {Q : PV → Store → Prop} {E : PX → Store → Prop} {S0 : Store}
end
end
/-! Fw252 -/
section
section
variable {Q : PV → Store → Prop} {E : PX → Store → Prop} {S0 : Store}
end
end
end Ev
set_option maxHeartbeats 0
namespace My
open PySem PySem.Spec PyProof.Rows L2 Ev
abbrev theProg : PySem.Program := PySem.Challenge.pw_inorder_k71_states_behind_deeds
def topS (i : Nat) : Stmt := theProg.main.body.getD i (.Pass ⟨0, 0, 0, 0⟩)
/-! the constants -/
/-! what each def is worth -/
abbrev Calls := Nat → FV
noncomputable def b_first_state (c : Calls) : TSt :=
  (sSeq (sRet (vBin oIdx (vBin oIdx (vBin oIdx (vVar 0) (vC (.int 1))) (vC (.int 0))) (vC (.int 0)))) sNil)
noncomputable def b_state_of (c : Calls) : TSt :=
  (sSeq (sFor (tgN 2) (iV (vBin oIdx (vVar 0) (vC (.int 1)))) (sSeq (sIf (bBl (vBin oEq (vBin oIdx (vVar 2) (vC (.int 0))) (vVar 1))) (sSeq (sRet (vVar 2)) sNil) sNil) sNil)) (sSeq (sRet (vTup (vsCons (vVar 1) (vsCons (vC (.bl false)) (vsCons (vTup vsNil) vsNil))))) sNil))
noncomputable def b_may_be_left (c : Calls) : TSt :=
  (sSeq (sRet (vBin oIdx (vApp (c 1) (vsCons (vVar 0) (vsCons (vVar 1) vsNil))) (vC (.int 1)))) sNil)
noncomputable def b_hands_back (c : Calls) : TSt :=
  (sSeq (sFor (tgT (tgCons (tgN 1) (tgCons (tgN 2) (tgCons (tgN 3) tgNil)))) (iV (vBin oIdx (vVar 0) (vC (.int 1)))) (sSeq (sFor (tgT (tgCons (tgN 4) (tgCons (tgN 5) tgNil))) (iV (vVar 3)) (sSeq (sIf (bV (vCallL fAny (lComp (tgN 6) (iV (vVar 5)) bYes (vBin oIsNot (vBin oIdx (vVar 6) (vC (.int 2))) (vC .non)) [6]))) (sSeq (sRet (vC (.bl true))) sNil) sNil) sNil)) sNil)) (sSeq (sRet (vC (.bl false))) sNil))
noncomputable def b_check_plain (c : Calls) : TSt :=
  (sSeq (sIf (bV (vApp (c 3) (vsCons (vVar 0) vsNil))) (sSeq (sRaise0 "NoPairing") sNil) sNil) sNil)
noncomputable def b_nexts_by (c : Calls) : TSt :=
  (sSeq (sSet 1 vDic0) (sSeq (sFor (tgT (tgCons (tgN 2) (tgCons (tgN 3) (tgCons (tgN 4) tgNil)))) (iV (vBin oIdx (vVar 0) (vC (.int 1)))) (sSeq (sFor (tgT (tgCons (tgN 5) (tgCons (tgN 6) tgNil))) (iV (vVar 4)) (sSeq (sSub (vDSetD (vVar 1) (vVar 5) vDic0) (vVar 2) (vNew (lComp (tgT (tgCons (tgN 7) (tgCons (tgN 8) (tgCons (tgN 9) tgNil)))) (iV (vVar 6)) bYes (vOrT (vVar 8) (vStr "")) [7, 8, 9]))) sNil)) sNil)) (sSeq (sRet (vVar 1)) sNil)))
noncomputable def b_moved_states (c : Calls) : TSt :=
  (sSeq (sSet 3 (vDGet2 (vVar 0) (vVar 2) vDic0)) (sSeq (sSet 4 vDic0) (sSeq (sFor (tgN 5) (iV (vVar 1)) (sSeq (sIf (bBl (vBin (oDIn true) (vVar 5) (vVar 3))) (sSeq (sRet (vC .non)) sNil) sNil) (sSeq (sFor (tgN 6) (iV (vBin oDIdx (vVar 3) (vVar 5))) (sSeq (sSub (vVar 4) (vVar 6) (vC (.bl true))) sNil)) sNil))) (sSeq (sRet (vCallL (fun xs => some (.tup xs)) (lCallN fSortD (vsCons (vVar 4) vsNil)))) sNil))))
noncomputable def b_states_behind (c : Calls) : TSt :=
  (sSeq (sExpr (vApp (c 4) (vsCons (vVar 0) vsNil))) (sSeq (sRet (vApp (c 6) (vsCons (vApp (c 5) (vsCons (vVar 0) vsNil)) (vsCons (vVar 1) (vsCons (vVar 2) vsNil))))) sNil))
noncomputable def b_ends_well (c : Calls) : TSt :=
  (sSeq (sRet (vCallL fAll (lComp (tgN 2) (iV (vVar 1)) bYes (vOr (vBin oEq (vVar 2) (vStr "")) (vApp (c 2) (vsCons (vVar 0) (vsCons (vVar 2) vsNil)))) [2]))) sNil)
noncomputable def b_row_lets (c : Calls) : TSt :=
  (sSeq (sExpr (vApp (c 4) (vsCons (vVar 0) vsNil))) (sSeq (sSet 2 (vApp (c 5) (vsCons (vVar 0) vsNil))) (sSeq (sSet 3 (vTup (vsCons (vApp (c 0) (vsCons (vVar 0) vsNil)) vsNil))) (sSeq (sFor (tgN 4) (iV (vVar 1)) (sSeq (sSet 3 (vApp (c 6) (vsCons (vVar 2) (vsCons (vVar 3) (vsCons (vVar 4) vsNil))))) (sSeq (sIf (bBl (vBin oIs (vVar 3) (vC .non))) (sSeq (sRet (vC (.bl false))) sNil) sNil) sNil))) (sSeq (sRet (vApp (c 8) (vsCons (vVar 0) (vsCons (vVar 3) vsNil)))) sNil)))))
noncomputable def b__law_cell_at (c : Calls) : TSt :=
  (sSeq (sIf (bBl (vBin oLt (vVar 1) (vCall fLen (vsCons (vVar 0) vsNil)))) (sSeq (sRet (vBin oIdx (vVar 0) (vVar 1))) sNil) sNil) (sSeq (sRet (vC (.int 0))) sNil))
noncomputable def b__law_deck (c : Calls) : TSt :=
  (sSeq (sRet (vDicN (vsCons (vStr "digits") (vsCons (vBin oIdx (vNew (lDisp (vsCons (vC (.int 0)) (vsCons (vVar 0) vsNil)))) (vCall fInt (vsCons (vBin oGe (vVar 0) (vBin oPow (vC (.int 10)) (vC (.int 18)))) vsNil))) (vsCons (vStr "turn") (vsCons (vC (.int 0)) (vsCons (vStr "seed") (vsCons (vBin oMod (vVar 0) (vC (.int 2147483647))) vsNil)))))))) sNil)
noncomputable def b__law_draw (c : Calls) : TSt :=
  (sSeq (sIf (bBl (vBin oGt (vBin oDIdx (vVar 0) (vStr "digits")) (vC (.int 0)))) (sSeq (sSet 2 (vBin oMod (vBin oDIdx (vVar 0) (vStr "digits")) (vVar 1))) (sSeq (sSub (vVar 0) (vStr "digits") (vBin oDiv (vBin oDIdx (vVar 0) (vStr "digits")) (vVar 1))) (sSeq (sRet (vVar 2)) sNil))) sNil) (sSeq (sSub (vVar 0) (vStr "turn") (vBin oAdd (vBin oDIdx (vVar 0) (vStr "turn")) (vC (.int 1)))) (sSeq (sSet 3 (vBin oMod (vBin oMul (vBin oAdd (vBin oDIdx (vVar 0) (vStr "seed")) (vBin oMul (vBin oMul (vC (.int 7919)) (vBin oDIdx (vVar 0) (vStr "turn"))) (vBin oDIdx (vVar 0) (vStr "turn")))) (vC (.int 48271))) (vC (.int 2147483647)))) (sSeq (sRet (vBin oMod (vBin oDiv (vBin oMod (vBin oMul (vVar 3) (vBin oAdd (vVar 3) (vC (.int 69621)))) (vC (.int 2147483629))) (vC (.int 8))) (vVar 1))) sNil))))
noncomputable def b__law_word (c : Calls) : TSt :=
  (sSeq (sSet 2 (vStr "abcdefghijklmnopqrstuvwxyz")) (sSeq (sSet 3 (vSmL mJoin (vStr "") (lComp (tgN 7) (iRng (vsCons (vBin oAdd (vC (.int 1)) (vApp (c 12) (vsCons (vVar 0) (vsCons (vC (.int 8)) vsNil)))) vsNil)) bYes (vBin oIdx (vVar 2) (vApp (c 12) (vsCons (vVar 0) (vsCons (vC (.int 26)) vsNil)))) [7]))) (sSeq (sSet 4 (vApp (c 12) (vsCons (vVar 0) (vsCons (vC (.int 8)) vsNil)))) (sSeq (sIf (bAnd (bBl (vEqL true (lVal (vVar 1)) (lDisp vsNil))) (bBl (vBin oGt (vVar 4) (vC (.int 4))))) (sSeq (sSet 5 (vApp (c 12) (vsCons (vVar 0) (vsCons (vCall fLen (vsCons (vBin oIdx (vVar 1) (vUn oNeg (vC (.int 1)))) vsNil)) vsNil)))) (sSeq (sSet 3 (vBin oAdd (vBin oAdd (vSlc (vBin oIdx (vVar 1) (vUn oNeg (vC (.int 1)))) oNone (oSome (vVar 5))) (vBin oIdx (vVar 3) (vC (.int 0)))) (vSlc (vBin oIdx (vVar 1) (vUn oNeg (vC (.int 1)))) (oSome (vBin oAdd (vVar 5) (vC (.int 1)))) oNone))) sNil)) sNil) (sSeq (sIf (bBl (vBin oEq (vVar 4) (vC (.int 4)))) (sSeq (sSet 3 (vBin oIdx (vNew (lDisp (vsCons (vStr "done") (vsCons (vStr "open") (vsCons (vStr "room") (vsCons (vStr "none") (vsCons (vStr "kept") (vsCons (vStr "state") (vsCons (vStr "looks") (vsCons (vStr "users") vsNil)))))))))) (vApp (c 12) (vsCons (vVar 0) (vsCons (vC (.int 8)) vsNil))))) sNil) sNil) (sSeq (sSet 6 (vStr "make use ask call see blind move leave loop out back fit bare as kind def main rest gone")) (sSeq (sWhile (bOr (bBl (vBin oIn (vVar 3) (vVar 1))) (bBl (vBin oIn (vVar 3) (vNew (lSm mSplit (vVar 6) (vsCons (vStr " ") vsNil)))))) (sSeq (sSet 3 (vBin oAdd (vBin oIdx (vVar 2) (vBin oMod (vBin oAdd (vSm mIndex (vVar 2) (vsCons (vBin oIdx (vVar 3) (vC (.int 0))) vsNil)) (vC (.int 1))) (vC (.int 26)))) (vSlc (vVar 3) (oSome (vC (.int 1))) oNone))) sNil)) (sSeq (sRet (vVar 3)) sNil))))))))
noncomputable def b__law_words (c : Calls) : TSt :=
  (sSeq (sSet 2 (vNew (lDisp vsNil))) (sSeq (sFor (tgN 3) (iRng (vsCons (vVar 1) vsNil)) (sSeq (sExpr (vLm mAppend (vVar 2) (vsCons (vApp (c 13) (vsCons (vVar 0) (vsCons (vVar 2) vsNil))) vsNil))) sNil)) (sSeq (sRet (vVar 2)) sNil)))
noncomputable def b__law_outs (c : Calls) : TSt :=
  (sSeq (sSet 5 (vApp (c 14) (vsCons (vVar 0) (vsCons (vBin oAdd (vC (.int 1)) (vApp (c 12) (vsCons (vVar 0) (vsCons (vBin oAdd (vC (.int 2)) (vBin oMul (vC (.int 4)) (vVar 4))) vsNil)))) vsNil)))) (sSeq (sSet 6 (vBin oEq (vApp (c 12) (vsCons (vVar 0) (vsCons (vC (.int 4)) vsNil))) (vC (.int 0)))) (sSeq (sSet 7 (vNew (lDisp vsNil))) (sSeq (sFor (tgN 8) (iV (vVar 5)) (sSeq (sSet 9 (vBin oIdx (vNew (lCat (lVal (vVar 2)) (lDisp (vsCons (vC .non) vsNil)))) (vApp (c 12) (vsCons (vVar 0) (vsCons (vBin oAdd (vCall fLen (vsCons (vVar 2) vsNil)) (vC (.int 1))) vsNil))))) (sSeq (sSet 10 (vC .non)) (sSeq (sIf (bAnd (bBl (vEqL true (lVal (vVar 3)) (lDisp vsNil))) (bBl (vBin oEq (vApp (c 12) (vsCons (vVar 0) (vsCons (vC (.int 6)) vsNil))) (vC (.int 0))))) (sSeq (sSet 10 (vBin oIdx (vVar 3) (vApp (c 12) (vsCons (vVar 0) (vsCons (vCall fLen (vsCons (vVar 3) vsNil)) vsNil))))) sNil) sNil) (sSeq (sExpr (vLm mAppend (vVar 7) (vsCons (vBin oIdx (vNew (lDisp (vsCons (vTup (vsCons (vVar 8) (vsCons (vVar 9) (vsCons (vVar 10) vsNil)))) (vsCons (vTup (vsCons (vVar 8) (vsCons (vVar 1) (vsCons (vC .non) vsNil)))) vsNil)))) (vCall fInt (vsCons (vVar 6) vsNil))) vsNil))) sNil))))) (sSeq (sRet (vCall fTup (vsCons (vVar 7) vsNil))) sNil)))))
noncomputable def b__law_kind (c : Calls) : TSt :=
  (sSeq (sSet 4 (vApp (c 14) (vsCons (vVar 0) (vsCons (vBin oAdd (vC (.int 1)) (vApp (c 12) (vsCons (vVar 0) (vsCons (vBin oAdd (vC (.int 3)) (vBin oMul (vC (.int 5)) (vVar 3))) vsNil)))) vsNil)))) (sSeq (sSet 5 (vApp (c 14) (vsCons (vVar 0) (vsCons (vBin oAdd (vC (.int 1)) (vApp (c 12) (vsCons (vVar 0) (vsCons (vBin oAdd (vC (.int 3)) (vBin oMul (vC (.int 5)) (vVar 3))) vsNil)))) vsNil)))) (sSeq (sSet 6 (vNew (lDisp vsNil))) (sSeq (sFor (tgN 7) (iV (vVar 4)) (sSeq (sSet 8 (vNew (lComp (tgN 9) (iV (vVar 5)) (bBl (vBin oGt (vApp (c 12) (vsCons (vVar 0) (vsCons (vC (.int 3)) vsNil))) (vC (.int 0)))) (vVar 9) [9]))) (sSeq (sSet 8 (vNew (lComp (tgN 9) (iV (vVar 8)) bYes (vTup (vsCons (vVar 9) (vsCons (vApp (c 15) (vsCons (vVar 0) (vsCons (vVar 7) (vsCons (vVar 4) (vsCons (vVar 2) (vsCons (vVar 3) vsNil)))))) vsNil))) [9]))) (sSeq (sExpr (vLm mAppend (vVar 6) (vsCons (vTup (vsCons (vVar 7) (vsCons (vBin oEq (vApp (c 12) (vsCons (vVar 0) (vsCons (vC (.int 2)) vsNil))) (vC (.int 0))) (vsCons (vCall fTup (vsCons (vVar 8) vsNil)) vsNil)))) vsNil))) sNil)))) (sSeq (sRet (vTup (vsCons (vVar 1) (vsCons (vCall fTup (vsCons (vVar 6) vsNil)) vsNil)))) sNil)))))
noncomputable def b__law_book (c : Calls) : TSt :=
  (sSeq (sSet 2 (vApp (c 14) (vsCons (vVar 0) (vsCons (vBin oAdd (vC (.int 1)) (vApp (c 12) (vsCons (vVar 0) (vsCons (vBin oAdd (vC (.int 2)) (vBin oMul (vC (.int 4)) (vVar 1))) vsNil)))) vsNil)))) (sSeq (sRet (vCallL (fun xs => some (.tup xs)) (lComp (tgN 3) (iV (vVar 2)) bYes (vApp (c 16) (vsCons (vVar 0) (vsCons (vVar 3) (vsCons (vVar 2) (vsCons (vVar 1) vsNil))))) [3]))) sNil))
noncomputable def b__law_kind_here (c : Calls) : TSt :=
  (sSeq (sSet 2 (vApp (c 12) (vsCons (vVar 0) (vsCons (vC (.int 8)) vsNil)))) (sSeq (sIf (bBl (vBin oLt (vVar 2) (vC (.int 6)))) (sSeq (sRet (vApp (c 16) (vsCons (vVar 0) (vsCons (vApp (c 13) (vsCons (vVar 0) (vsCons (vNew (lDisp vsNil)) vsNil))) (vsCons (vNew (lDisp vsNil)) (vsCons (vBin oMul (vVar 1) (vCall fInt (vsCons (vBin oEq (vVar 2) (vC (.int 5))) vsNil))) vsNil)))))) sNil) sNil) (sSeq (sSet 3 (vApp (c 14) (vsCons (vVar 0) (vsCons (vBin oAdd (vC (.int 3)) (vApp (c 12) (vsCons (vVar 0) (vsCons (vC (.int 6)) vsNil)))) vsNil)))) (sSeq (sSet 4 (vApp (c 14) (vsCons (vVar 0) (vsCons (vCall fLen (vsCons (vVar 3) vsNil)) vsNil)))) (sSeq (sSet 5 (vApp (c 12) (vsCons (vVar 0) (vsCons (vBin oAdd (vCall fLen (vsCons (vVar 3) vsNil)) (vC (.int 1))) vsNil)))) (sSeq (sSet 6 (vNew (lDisp vsNil))) (sSeq (sFor (tgN 7) (iRng (vsCons (vCall fLen (vsCons (vVar 3) vsNil)) vsNil)) (sSeq (sSet 8 (vBin oIdx (vNew (lDisp (vsCons (vBin oIdx (vVar 3) (vBin oMod (vBin oAdd (vVar 7) (vC (.int 1))) (vCall fLen (vsCons (vVar 3) vsNil)))) (vsCons (vC .non) vsNil)))) (vCall fInt (vsCons (vAnd (vBin oEq (vVar 5) (vCall fLen (vsCons (vVar 3) vsNil))) (vBin oEq (vBin oAdd (vVar 7) (vC (.int 1))) (vVar 5))) vsNil)))) (sSeq (sExpr (vLm mAppend (vVar 6) (vsCons (vTup (vsCons (vBin oIdx (vVar 3) (vVar 7)) (vsCons (vBin oEq (vVar 7) (vVar 5)) (vsCons (vTup (vsCons (vTup (vsCons (vBin oIdx (vVar 4) (vVar 7)) (vsCons (vTup (vsCons (vTup (vsCons (vStr "ok") (vsCons (vVar 8) (vsCons (vC .non) vsNil)))) vsNil)) vsNil))) vsNil)) vsNil)))) vsNil))) sNil))) (sSeq (sRet (vTup (vsCons (vApp (c 13) (vsCons (vVar 0) (vsCons (vNew (lDisp vsNil)) vsNil))) (vsCons (vCall fTup (vsCons (vVar 6) vsNil)) vsNil)))) sNil))))))))
noncomputable def b__law_most (c : Calls) : TSt :=
  (sSeq (sRet (vBin oIdx (vNew (lDisp (vsCons (vApp (c 12) (vsCons (vVar 0) (vsCons (vC (.int 7)) vsNil))) (vsCons (vApp (c 12) (vsCons (vVar 0) (vsCons (vC (.int 13)) vsNil))) (vsCons (vApp (c 12) (vsCons (vVar 0) (vsCons (vC (.int 99)) vsNil))) vsNil))))) (vBin oIdx (vNew (lDisp (vsCons (vC (.int 0)) (vsCons (vC (.int 0)) (vsCons (vC (.int 1)) (vsCons (vC (.int 2)) vsNil)))))) (vApp (c 12) (vsCons (vVar 0) (vsCons (vC (.int 4)) vsNil)))))) sNil)
noncomputable def b__law_read (c : Calls) : TSt :=
  (sSeq (sSet 1 (vDicN (vsCons (vStr "first") (vsCons (vTup (vsCons (vBin oIdx (vBin oIdx (vBin oIdx (vVar 0) (vC (.int 1))) (vC (.int 0))) (vC (.int 0))) vsNil)) (vsCons (vStr "rest") (vsCons (vDic1 (vStr "") (vC (.bl true))) (vsCons (vStr "deeds") (vsCons (vNew (lDisp vsNil)) (vsCons (vStr "nexts") (vsCons vDicN0 vsNil)))))))))) (sSeq (sFor (tgT (tgCons (tgN 2) (tgCons (tgN 3) (tgCons (tgN 4) tgNil)))) (iV (vBin oIdx (vVar 0) (vC (.int 1)))) (sSeq (sSub (vBin oDIdx (vVar 1) (vStr "rest")) (vVar 2) (vVar 3)) (sSeq (sFor (tgT (tgCons (tgN 5) (tgCons (tgN 6) tgNil))) (iV (vVar 4)) (sSeq (sSubN (vBin oDIdx (vVar 1) (vStr "nexts")) (vTup (vsCons (vVar 2) (vsCons (vVar 5) vsNil))) (vNew (lComp (tgN 7) (iV (vVar 6)) bYes (vOrT (vBin oIdx (vVar 7) (vC (.int 1))) (vStr "")) [7]))) (sSeq (sIf (bBl (vBin oNotIn (vVar 5) (vBin oDIdx (vVar 1) (vStr "deeds")))) (sSeq (sExpr (vLm mAppend (vBin oDIdx (vVar 1) (vStr "deeds")) (vsCons (vVar 5) vsNil))) sNil) sNil) sNil))) sNil))) (sSeq (sRet (vVar 1)) sNil)))
noncomputable def b__law_some_row (c : Calls) : TSt :=
  (sSeq (sSet 3 (vNew (lCat (lVal (vBin oDIdx (vVar 1) (vStr "deeds"))) (lDisp (vsCons (vApp (c 13) (vsCons (vVar 0) (vsCons (vBin oDIdx (vVar 1) (vStr "deeds")) vsNil))) vsNil))))) (sSeq (sSet 4 (vBin oSub (vCall fLen (vsCons (vVar 3) vsNil)) (vCall fInt (vsCons (vAnd (vBin oGt (vCall fLen (vsCons (vVar 3) vsNil)) (vC (.int 1))) (vBin oGt (vApp (c 12) (vsCons (vVar 0) (vsCons (vC (.int 4)) vsNil))) (vC (.int 0)))) vsNil)))) (sSeq (sRet (vCallL (fun xs => some (.tup xs)) (lComp (tgN 5) (iRng (vsCons (vVar 2) vsNil)) bYes (vBin oIdx (vVar 3) (vApp (c 12) (vsCons (vVar 0) (vsCons (vVar 4) vsNil)))) [5]))) sNil)))
noncomputable def b__law_next (c : Calls) : TSt :=
  (sSeq (sSet 3 (vNew (lDisp vsNil))) (sSeq (sFor (tgN 4) (iV (vVar 1)) (sSeq (sIf (bBl (vBin (oNIn true) (vTup (vsCons (vVar 4) (vsCons (vVar 2) vsNil))) (vBin oDIdx (vVar 0) (vStr "nexts")))) (sSeq (sRet (vC .non)) sNil) sNil) (sSeq (sExpr (vExt (vVar 3) (lVal (vBin oNIdx (vBin oDIdx (vVar 0) (vStr "nexts")) (vTup (vsCons (vVar 4) (vsCons (vVar 2) vsNil))))))) sNil))) (sSeq (sRet (vCallL (fun xs => some (.tup xs)) (lSortSet (vVar 3)))) sNil)))
noncomputable def b__law_ends (c : Calls) : TSt :=
  (sSeq (sRet (vCallL fAll (lComp (tgN 2) (iV (vVar 1)) bYes (vBin oDIdx (vBin oDIdx (vVar 0) (vStr "rest")) (vVar 2)) [2]))) sNil)
noncomputable def b__law_lets (c : Calls) : TSt :=
  (sSeq (sSet 2 (vBin oDIdx (vVar 0) (vStr "first"))) (sSeq (sFor (tgN 3) (iV (vVar 1)) (sSeq (sSet 2 (vApp (c 22) (vsCons (vVar 0) (vsCons (vVar 2) (vsCons (vVar 3) vsNil))))) (sSeq (sIf (bBl (vBin oIs (vVar 2) (vC .non))) (sSeq (sRet (vC (.bl false))) sNil) sNil) sNil))) (sSeq (sRet (vApp (c 23) (vsCons (vVar 0) (vsCons (vVar 2) vsNil)))) sNil)))
noncomputable def b__law_says (c : Calls) : TSt :=
  (sSeq (sRet (vAnd (vIsi "bool" (vVar 0)) (vBin oEq (vVar 0) (vVar 1)))) sNil)
noncomputable def b__law_sets (c : Calls) : TSt :=
  (sSeq (sSet 2 (vNew (lComp (tgN 6) (iDic fKeys (vBin oDIdx (vVar 1) (vStr "rest"))) (bBl (vBin oNe (vVar 6) (vStr ""))) (vVar 6) [6]))) (sSeq (sSet 3 (vNew (lCat (lComp (tgN 6) (iV (vVar 2)) bYes (vTup (vsCons (vVar 6) vsNil)) [6]) (lDisp (vsCons (vTup (vsCons (vStr "") vsNil)) vsNil))))) (sSeq (sFor (tgN 4) (iRng (vsCons (vC (.int 6)) vsNil)) (sSeq (sSet 5 (vNew (lComp (tgN 7) (iRng (vsCons (vBin oAdd (vC (.int 2)) (vApp (c 12) (vsCons (vVar 0) (vsCons (vC (.int 5)) vsNil)))) vsNil)) bYes (vBin oIdx (vNew (lCat (lVal (vVar 2)) (lDisp (vsCons (vStr "") vsNil)))) (vApp (c 12) (vsCons (vVar 0) (vsCons (vBin oAdd (vCall fLen (vsCons (vVar 2) vsNil)) (vC (.int 1))) vsNil)))) [7]))) (sSeq (sExpr (vLm mAppend (vVar 3) (vsCons (vCallL (fun xs => some (.tup xs)) (lSortSet (vVar 5))) vsNil))) sNil))) (sSeq (sRet (vVar 3)) sNil))))
noncomputable def b_law (c : Calls) : TSt :=
  (sSeq (sFor (tgN 1) (iL (lCat (lDisp (vsCons (vApp (c 10) (vsCons (vVar 0) (vsCons (vC (.int 0)) vsNil))) vsNil)) (lSlc (vVar 0) (oSome (vC (.int 1))) (oSome (vC (.int 5)))))) (sSeq (sSet 2 (vApp (c 11) (vsCons (vVar 1) vsNil))) (sSeq (sSet 3 (vApp (c 18) (vsCons (vVar 2) (vsCons (vC (.int 1)) vsNil)))) (sSeq (sSet 4 (vApp (c 20) (vsCons (vVar 3) vsNil))) (sSeq (sSet 5 (vNew (lCat (lVal (vBin oDIdx (vVar 4) (vStr "deeds"))) (lDisp (vsCons (vApp (c 13) (vsCons (vVar 2) (vsCons (vBin oDIdx (vVar 4) (vStr "deeds")) vsNil))) vsNil))))) (sSeq (sFor (tgN 6) (iV (vApp (c 26) (vsCons (vVar 2) (vsCons (vVar 4) vsNil)))) (sSeq (sFor (tgN 7) (iV (vVar 5)) (sSeq (sSet 8 (vApp (c 22) (vsCons (vVar 4) (vsCons (vVar 6) (vsCons (vVar 7) vsNil))))) (sSeq (sIf (bOr (bBl (vBin oNe (vApp (c 7) (vsCons (vVar 3) (vsCons (vVar 6) (vsCons (vVar 7) vsNil)))) (vVar 8))) (bBl (vBin oNe (vApp (c 7) (vsCons (vVar 3) (vsCons (vVar 6) (vsCons (vVar 7) vsNil)))) (vVar 8)))) (sSeq (sRet (vC (.bl false))) sNil) sNil) sNil))) sNil)) (sSeq (sFor (tgN 9) (iRng (vsCons (vC (.int 6)) vsNil)) (sSeq (sSet 10 (vApp (c 21) (vsCons (vVar 2) (vsCons (vVar 4) (vsCons (vBin oIdx (vNew (lDisp (vsCons (vApp (c 12) (vsCons (vVar 2) (vsCons (vC (.int 4)) vsNil))) (vsCons (vApp (c 12) (vsCons (vVar 2) (vsCons (vC (.int 13)) vsNil))) vsNil)))) (vApp (c 12) (vsCons (vVar 2) (vsCons (vC (.int 2)) vsNil)))) vsNil))))) (sSeq (sIf (bNot (bV (vApp (c 25) (vsCons (vApp (c 9) (vsCons (vVar 3) (vsCons (vVar 10) vsNil))) (vsCons (vApp (c 24) (vsCons (vVar 4) (vsCons (vVar 10) vsNil))) vsNil))))) (sSeq (sRet (vC (.bl false))) sNil) sNil) sNil))) sNil))))))) (sSeq (sRet (vC (.bl true))) sNil))
noncomputable def TT : Nat → Calls
  | 0 => fun _ _ _ => .bad
  | n + 1 => fun j => match j with
    | 0 => fnV 1 1 (b_first_state (TT n))
    | 1 => fnV 2 3 (b_state_of (TT n))
    | 2 => fnV 2 2 (b_may_be_left (TT n))
    | 3 => fnV 1 7 (b_hands_back (TT n))
    | 4 => fnV 1 1 (b_check_plain (TT n))
    | 5 => fnV 1 10 (b_nexts_by (TT n))
    | 6 => fnV 3 7 (b_moved_states (TT n))
    | 7 => fnV 3 3 (b_states_behind (TT n))
    | 8 => fnV 2 3 (b_ends_well (TT n))
    | 9 => fnV 2 5 (b_row_lets (TT n))
    | 10 => fnV 2 2 (b__law_cell_at (TT n))
    | 11 => fnV 1 1 (b__law_deck (TT n))
    | 12 => fnV 2 4 (b__law_draw (TT n))
    | 13 => fnV 2 8 (b__law_word (TT n))
    | 14 => fnV 2 4 (b__law_words (TT n))
    | 15 => fnV 5 11 (b__law_outs (TT n))
    | 16 => fnV 4 10 (b__law_kind (TT n))
    | 17 => fnV 2 4 (b__law_book (TT n))
    | 18 => fnV 2 9 (b__law_kind_here (TT n))
    | 19 => fnV 1 1 (b__law_most (TT n))
    | 20 => fnV 1 8 (b__law_read (TT n))
    | 21 => fnV 3 6 (b__law_some_row (TT n))
    | 22 => fnV 3 5 (b__law_next (TT n))
    | 23 => fnV 2 3 (b__law_ends (TT n))
    | 24 => fnV 2 4 (b__law_lets (TT n))
    | 25 => fnV 2 2 (b__law_says (TT n))
    | 26 => fnV 2 8 (b__law_sets (TT n))
    | 27 => fnV 1 11 (b_law (TT n))
    | _ => fun _ _ => .bad
end My
namespace My
open PySem PySem.Spec PyProof.Rows L2 Ev SX
end My

namespace My
open PySem PySem.Spec PyProof.Rows L2 Ev
/-! the text is worth it -/
abbrev s_first_state : Stmt := topS 4
abbrev s_state_of : Stmt := topS 5
abbrev s_may_be_left : Stmt := topS 6
abbrev s_hands_back : Stmt := topS 8
abbrev s_check_plain : Stmt := topS 9
abbrev s_nexts_by : Stmt := topS 11
abbrev s_moved_states : Stmt := topS 12
abbrev s_states_behind : Stmt := topS 13
abbrev s_ends_well : Stmt := topS 14
abbrev s_row_lets : Stmt := topS 15
abbrev s__law_cell_at : Stmt := topS 17
abbrev s__law_deck : Stmt := topS 18
abbrev s__law_draw : Stmt := topS 19
abbrev s__law_word : Stmt := topS 20
abbrev s__law_words : Stmt := topS 21
abbrev s__law_outs : Stmt := topS 22
abbrev s__law_kind : Stmt := topS 23
abbrev s__law_book : Stmt := topS 24
abbrev s__law_kind_here : Stmt := topS 25
abbrev s__law_most : Stmt := topS 26
abbrev s__law_read : Stmt := topS 27
abbrev s__law_some_row : Stmt := topS 28
abbrev s__law_next : Stmt := topS 29
abbrev s__law_ends : Stmt := topS 30
abbrev s__law_lets : Stmt := topS 31
abbrev s__law_says : Stmt := topS 32
abbrev s__law_sets : Stmt := topS 33
abbrev s_law : Stmt := topS 34
def table : List (Str × List Str) := ("first_state", ["kind"]) :: ("state_of", ["kind", "state"]) :: ("may_be_left", ["kind", "state"]) :: ("hands_back", ["kind"]) :: ("check_plain", ["kind"]) :: ("nexts_by", ["kind"]) :: ("moved_states", ["nexts", "states", "deed"]) :: ("states_behind", ["kind", "states", "deed"]) :: ("ends_well", ["kind", "states"]) :: ("row_lets", ["kind", "row"]) :: ("_law_cell_at", ["_law_script", "_law_k"]) :: ("_law_deck", ["_law_cell"]) :: ("_law_draw", ["_law_deck_here", "_law_most_here"]) :: ("_law_word", ["_law_deck_here", "_law_taken"]) :: ("_law_words", ["_law_deck_here", "_law_many"]) :: ("_law_outs", ["_law_deck_here", "_law_state", "_law_states", "_law_names", "_law_wide"]) :: ("_law_kind", ["_law_deck_here", "_law_name", "_law_names", "_law_wide"]) :: ("_law_book", ["_law_deck_here", "_law_wide"]) :: ("_law_kind_here", ["_law_deck_here", "_law_wide"]) :: ("_law_most", ["_law_deck_here"]) :: ("_law_read", ["_law_kind_here_here"]) :: ("_law_some_row", ["_law_deck_here", "_law_here", "_law_many"]) :: ("_law_next", ["_law_here", "_law_states", "_law_deed"]) :: ("_law_ends", ["_law_here", "_law_states"]) :: ("_law_lets", ["_law_here", "_law_row"]) :: ("_law_says", ["_law_found", "_law_due"]) :: ("_law_sets", ["_law_deck_here", "_law_here"]) :: ("law", ["_law_script"]) :: []
section
variable {P : Program} {w : World} {K : PySem.W.Frag} {mg : Str → Option Value} {base : Heap}
end
def e_first_state : He.DefD := ⟨("first_state", none), "first_state", "first_state", defArgs s_first_state, defBody s_first_state, defScope s_first_state, [], []⟩
def e_state_of : He.DefD := ⟨("state_of", none), "state_of", "state_of", defArgs s_state_of, defBody s_state_of, defScope s_state_of, [], []⟩
def e_may_be_left : He.DefD := ⟨("may_be_left", none), "may_be_left", "may_be_left", defArgs s_may_be_left, defBody s_may_be_left, defScope s_may_be_left, [], []⟩
def e_hands_back : He.DefD := ⟨("hands_back", none), "hands_back", "hands_back", defArgs s_hands_back, defBody s_hands_back, defScope s_hands_back, [], []⟩
def e_check_plain : He.DefD := ⟨("check_plain", none), "check_plain", "check_plain", defArgs s_check_plain, defBody s_check_plain, defScope s_check_plain, [], []⟩
def e_nexts_by : He.DefD := ⟨("nexts_by", none), "nexts_by", "nexts_by", defArgs s_nexts_by, defBody s_nexts_by, defScope s_nexts_by, [], []⟩
def e_moved_states : He.DefD := ⟨("moved_states", none), "moved_states", "moved_states", defArgs s_moved_states, defBody s_moved_states, defScope s_moved_states, [], []⟩
def e_states_behind : He.DefD := ⟨("states_behind", none), "states_behind", "states_behind", defArgs s_states_behind, defBody s_states_behind, defScope s_states_behind, [], []⟩
def e_ends_well : He.DefD := ⟨("ends_well", none), "ends_well", "ends_well", defArgs s_ends_well, defBody s_ends_well, defScope s_ends_well, [], []⟩
def e_row_lets : He.DefD := ⟨("row_lets", none), "row_lets", "row_lets", defArgs s_row_lets, defBody s_row_lets, defScope s_row_lets, [], []⟩
def e__law_cell_at : He.DefD := ⟨("_law_cell_at", none), "_law_cell_at", "_law_cell_at", defArgs s__law_cell_at, defBody s__law_cell_at, defScope s__law_cell_at, [], []⟩
def e__law_deck : He.DefD := ⟨("_law_deck", none), "_law_deck", "_law_deck", defArgs s__law_deck, defBody s__law_deck, defScope s__law_deck, [], []⟩
def e__law_draw : He.DefD := ⟨("_law_draw", none), "_law_draw", "_law_draw", defArgs s__law_draw, defBody s__law_draw, defScope s__law_draw, [], []⟩
def e__law_word : He.DefD := ⟨("_law_word", none), "_law_word", "_law_word", defArgs s__law_word, defBody s__law_word, defScope s__law_word, [], []⟩
def e__law_words : He.DefD := ⟨("_law_words", none), "_law_words", "_law_words", defArgs s__law_words, defBody s__law_words, defScope s__law_words, [], []⟩
def e__law_outs : He.DefD := ⟨("_law_outs", none), "_law_outs", "_law_outs", defArgs s__law_outs, defBody s__law_outs, defScope s__law_outs, [], []⟩
def e__law_kind : He.DefD := ⟨("_law_kind", none), "_law_kind", "_law_kind", defArgs s__law_kind, defBody s__law_kind, defScope s__law_kind, [], []⟩
def e__law_book : He.DefD := ⟨("_law_book", none), "_law_book", "_law_book", defArgs s__law_book, defBody s__law_book, defScope s__law_book, [], []⟩
def e__law_kind_here : He.DefD := ⟨("_law_kind_here", none), "_law_kind_here", "_law_kind_here", defArgs s__law_kind_here, defBody s__law_kind_here, defScope s__law_kind_here, [], []⟩
def e__law_most : He.DefD := ⟨("_law_most", none), "_law_most", "_law_most", defArgs s__law_most, defBody s__law_most, defScope s__law_most, [], []⟩
def e__law_read : He.DefD := ⟨("_law_read", none), "_law_read", "_law_read", defArgs s__law_read, defBody s__law_read, defScope s__law_read, [], []⟩
def e__law_some_row : He.DefD := ⟨("_law_some_row", none), "_law_some_row", "_law_some_row", defArgs s__law_some_row, defBody s__law_some_row, defScope s__law_some_row, [], []⟩
def e__law_next : He.DefD := ⟨("_law_next", none), "_law_next", "_law_next", defArgs s__law_next, defBody s__law_next, defScope s__law_next, [], []⟩
def e__law_ends : He.DefD := ⟨("_law_ends", none), "_law_ends", "_law_ends", defArgs s__law_ends, defBody s__law_ends, defScope s__law_ends, [], []⟩
def e__law_lets : He.DefD := ⟨("_law_lets", none), "_law_lets", "_law_lets", defArgs s__law_lets, defBody s__law_lets, defScope s__law_lets, [], []⟩
def e__law_says : He.DefD := ⟨("_law_says", none), "_law_says", "_law_says", defArgs s__law_says, defBody s__law_says, defScope s__law_says, [], []⟩
def e__law_sets : He.DefD := ⟨("_law_sets", none), "_law_sets", "_law_sets", defArgs s__law_sets, defBody s__law_sets, defScope s__law_sets, [], []⟩
def e_law : He.DefD := ⟨("law", none), "law", "law", defArgs s_law, defBody s_law, defScope s_law, [], []⟩
def fnL : List He.DefD := ([e_first_state, e_state_of, e_may_be_left, e_hands_back, e_check_plain, e_nexts_by, e_moved_states, e_states_behind, e_ends_well, e_row_lets, e__law_cell_at, e__law_deck, e__law_draw, e__law_word, e__law_words, e__law_outs, e__law_kind, e__law_book, e__law_kind_here, e__law_most, e__law_read, e__law_some_row, e__law_next, e__law_ends, e__law_lets, e__law_says, e__law_sets, e_law] : List He.DefD)
def faL : List He.Fa := ([.glo "first_state", .glo "state_of", .glo "may_be_left", .glo "hands_back", .glo "check_plain", .glo "nexts_by", .glo "moved_states", .glo "states_behind", .glo "ends_well", .glo "row_lets", .glo "_law_cell_at", .glo "_law_deck", .glo "_law_draw", .glo "_law_word", .glo "_law_words", .glo "_law_outs", .glo "_law_kind", .glo "_law_book", .glo "_law_kind_here", .glo "_law_most", .glo "_law_read", .glo "_law_some_row", .glo "_law_next", .glo "_law_ends", .glo "_law_lets", .glo "_law_says", .glo "_law_sets", .glo "law", .free "all", .free "any"] : List He.Fa) ++ ([.free "bool", .free "int", .free "isinstance", .free "len", .free "range", .free "set", .free "sorted", .free "tuple"] : List He.Fa)
def cnL : List (Str × PV) := ([] : List (Str × PV))
def exL (K : PySem.W.Frag) : Bool := (cnL.all fun p => chkG K p) && (xallB ["NoPairing"] [] K && (xnoB "NoPairing" K))
abbrev R0 : PySem.W.OpenRow := PySem.W.OpenLaw.row PySem.Challenge.rw_inorder_k71_states_behind_deeds
def loose0 : List Str := (["first_state", "state_of", "may_be_left", "hands_back", "check_plain", "nexts_by", "moved_states", "states_behind", "ends_well", "row_lets", "_law_cell_at", "_law_deck", "_law_draw", "_law_word", "_law_words", "_law_outs", "_law_kind", "_law_book", "_law_kind_here", "_law_most", "_law_read", "_law_some_row", "_law_next", "_law_ends", "_law_lets", "_law_says", "_law_sets", "OrderError", "NoPairing"] : List Str)
abbrev hk : PySem.W.Hook := hookS 4 faL fnL exL
def ob (s : PySem.W.SharedT) : AlS := obsS 4 faL fnL exL (HandSHeadRun.getT s)
theorem run (w : World) : HandSHeadRun.RunEq R0 (PySem.W.view R0.prog [34]) hk ob 9000 loose0 w := by
  intro os
  kernel_rfl
end My
open PySem PySem.W PySem.Calls PyProof.Rows
end
set_option Elab.async false
set_option linter.all false
set_option maxRecDepth 100000
set_option maxHeartbeats 0
namespace Ev
open PySem PySem.Spec PyProof.Rows L2
/-! Fw1: values as data, a store of the things that change, and what an expression or a statement is worth over them. -/
section

/-! ### how data stand in the heap -/
section
variable {K : PySem.W.Frag} {cm : CM} {μ μ' μ1 μ2 : List Addr} {H H' H1 H2 : Hp} {S S' : Store} {ρ : Env'} {σ : L2.St}
theorem RS.trk (R : RS K cm μ S H) {a : Addr} (h : a ∈ μ) : H a ≠ none := fun hn => by
  obtain ⟨i, o, _, _, r⟩ := R.mem h
  cases o with
  | lst xs => obtain ⟨ws, e, _⟩ := r; rw [e] at hn; cases hn
  | dic xs => obtain ⟨ws, e, _⟩ := r; rw [e] at hn; cases hn
  | ins C fs => obtain ⟨Ca, dx, ws, _, e, _⟩ := r; rw [e] at hn; cases hn
  | exn C fs => obtain ⟨cls, oe, d, _, e, _⟩ := r; rw [e] at hn; cases hn
  | dicW xs => obtain ⟨ob, ws, e, _⟩ := r; rw [e] at hn; cases hn
  | dicN xs => obtain ⟨ws, e, _⟩ := r; rw [e] at hn; cases hn
  | dicM xs => obtain ⟨ob, ws, e, _⟩ := r; rw [e] at hn; cases hn
/-- what data ask of a step at the least: tuples and locked lists stay -/
structure Up2 (μ : List Addr) (H : Hp) (μ' : List Addr) (H' : Hp) : Prop where
  pre : ∀ (i : Nat) (a : Addr), μ[i]? = some a → μ'[i]? = some a
  kt : ∀ b vs, Rd H b (.tup vs) → Rd H' b (.tup vs)
  kf : ∀ b o u, H b = some (.frz o u) → H' b = some (.frz o u)
  kx : ∀ b fs, H b = some (.xd fs) → H' b = some (.xd fs)
mutual
theorem RV.mono2 (E : Up2 μ H μ' H') : ∀ {x : PV} {v : V}, RV K μ H x v → RV K μ' H' x v
  | _, _, .non => .non
  | _, _, .bl b => .bl b
  | _, _, .int i => .int i
  | _, _, .str x h => .str x h
  | _, _, .tup s l r => .tup (s.elim (fun ⟨o, d, s⟩ => .inl ⟨o, d, E.kf _ _ _ s⟩) .inr) l (RVs.mono2 E r)
  | _, _, .ref h => .ref (E.pre _ _ h)
  | _, _, .frl s l r => .frl (s.elim (fun ⟨o, s⟩ => .inl ⟨o, E.kf _ _ _ s⟩) .inr) l (RVs.mono2 E r)
theorem RVs.mono2 (E : Up2 μ H μ' H') : ∀ {xs : List PV} {vs : List V}, RVs K μ H xs vs → RVs K μ' H' xs vs
  | _, _, .nil => .nil
  | _, _, .cons h t => .cons (RV.mono2 E h) (RVs.mono2 E t)
end
theorem RNs.mono2 (E : Up2 μ H μ' H') {xs : List (PV × PV)} {vs : List (NestedKey × Addr × Value)} (h : RNs K μ H xs vs) : RNs K μ' H' xs vs :=
  Paired.mapP h fun _ _ r => ⟨r.1, r.2.1, r.2.2.1.mono2 E, let ⟨u, h1, h2⟩ := r.2.2.2; ⟨u, h1, h2.mono2 E⟩⟩
theorem RKs.mono2 {κ : Type} (E : Up2 μ H μ' H') {xs : List (κ × PV)} {vs : List (κ × V)} (h : RKs K μ H xs vs) : RKs K μ' H' xs vs :=
  Paired.mapP h fun _ _ r => ⟨r.1, r.2.mono2 E⟩
theorem RE.mono2 (E : Up2 μ H μ' H') (h : RE K μ H ρ σ) : RE K μ' H' ρ σ := ⟨h.1, fun i x e => let ⟨v, e', r⟩ := h.2 i x e; ⟨v, e', r.mono2 E⟩⟩
theorem RO.mono2 (E : Up2 μ H μ' H') {a : Addr} {o : PObj} (h : RO K cm μ H a o) (e : H' a = H a) : RO K cm μ' H' a o := by
  cases o with
  | lst xs => obtain ⟨ws, e1, l, r⟩ := h; exact ⟨ws, e.trans e1, l, r.mono2 E⟩
  | dic xs => obtain ⟨ws, e1, l, r⟩ := h; exact ⟨ws, e.trans e1, l, r.mono2 E⟩
  | ins C fs => obtain ⟨Ca, dx, ws, c, e1, l, r⟩ := h; exact ⟨Ca, dx, ws, c, e.trans e1, l, r.mono2 E⟩
  | exn C fs => obtain ⟨cls, oe, d, c, e1, z, hd, q⟩ := h; exact ⟨cls, oe, d, c, e.trans e1, z, hd, q.elim .inl fun ⟨da, fv, q1, q2, q3⟩ => .inr ⟨da, fv, q1, E.kx _ _ q2, q3.mono2 E⟩⟩
  | dicW xs => obtain ⟨ob, ws, e1, l, r⟩ := h; exact ⟨ob, ws, e.trans e1, l, r.mono2 E⟩
  | dicN xs => obtain ⟨ws, e1, n, l, r⟩ := h; exact ⟨ws, e.trans e1, n, l, r.mono2 E⟩
  | dicM xs => obtain ⟨ob, ws, e1, n, l, r⟩ := h; exact ⟨ob, ws, e.trans e1, n, l, r.mono2 E⟩
/-- a list that is no thing of the store is rewritten -/
theorem Up2.off {D : Addr} {ws : List V} {o : HO} (h : H D = some (.lst ws)) : Up2 μ H μ (upd H D o) :=
  ⟨fun _ _ h => h, fun b vs hb => by
    rcases hb with hb | ⟨u, hb⟩
    · exact .inl (by rw [upd_ne]; exact hb; rintro rfl; rw [h] at hb; cases hb)
    · exact .inr ⟨u, by rw [upd_ne]; exact hb; rintro rfl; rw [h] at hb; cases hb⟩, fun b u vs hb => (by rw [upd_ne]; exact hb; rintro rfl; rw [h] at hb; cases hb), fun b fs hb => by rw [upd_ne]; exact hb; rintro rfl; rw [h] at hb; cases hb⟩
theorem RS.off {D : Addr} {ws : List V} {o : HO} (R : RS K cm μ S H) (hm : D ∉ μ) (h : H D = some (.lst ws)) : RS K cm μ S (upd H D o) :=
  ⟨R.len, R.nd, fun i a ob hi e => (R.ob i a ob hi e).mono2 (Up2.off h) (by rw [upd_ne]; rintro rfl; exact hm (List.mem_of_getElem? hi))⟩
theorem Ext.off {D : Addr} {o : HO} {μ1 : List Addr} {H1 : Hp} (E : Ext μ1 H1 μ H) (h : H1 D = none) : Ext μ1 H1 μ (upd H D o) :=
  ⟨E.pre, E.new, fun b u e hb => by rw [upd_ne (ne_of_none e h)]; exact E.kp b u e hb, fun b u x e => by rw [upd_ne (ne_of_none e h)]; exact E.kz b u x e⟩
theorem RVs.reverse {xs : List PV} {vs : List V} (h : RVs K μ H xs vs) : RVs K μ H xs.reverse vs.reverse := by
  induction h using RVs.rec (motive_1 := fun _ _ _ => True) with
  | nil => exact .nil
  | cons h t _ ih => simp only [List.reverse_cons]; exact ih.append (.cons h .nil)
  | _ => trivial
/-! ### the steps of the heap -/
/-- a new thing that is no thing of the store -/
theorem Ext.fresh {p : Addr} {o : HO} (hp : H p = none) : Ext μ H μ (upd H p o) :=
  ⟨fun _ _ h => h, fun _ h => .inl h, fun b u h _ => by rw [upd_ne (ne_of_none h hp)]; exact h, fun b u x h => by rw [upd_ne (ne_of_none h hp)]; exact h⟩
theorem RS.fresh {p : Addr} {o : HO} (R : RS K cm μ S H) (hp : H p = none) : RS K cm μ S (upd H p o) :=
  ⟨R.len, R.nd, fun i a ob h e => (R.ob i a ob h e).mono R (Ext.fresh hp) (by
    have hm : a ∈ μ := List.mem_of_getElem? h
    rw [upd_ne]
    intro z; subst z; exact R.trk hm hp)⟩
/-- a new thing of the store -/
theorem Ext.grow {p : Addr} {o : HO} (hp : H p = none) : Ext μ H (μ ++ [p]) (upd H p o) where
  pre := fun i a h => by
    rw [List.getElem?_append_left (List.getElem?_eq_some_iff.mp h).1]; exact h
  new := fun b h => by
    rcases List.mem_append.mp h with h | h
    · exact .inl h
    · rw [List.mem_singleton.mp h]; exact .inr hp
  kp := fun b u h _ => by rw [upd_ne (ne_of_none h hp)]; exact h
  kz := fun b u x h => by rw [upd_ne (ne_of_none h hp)]; exact h
theorem RS.grow {p : Addr} {o : HO} {ob : PObj} (R : RS K cm μ S H) (hp : H p = none) (r : RO K cm (μ ++ [p]) (upd H p o) p ob) : RS K cm (μ ++ [p]) (S ++ [ob]) (upd H p o) := by
  have hn : p ∉ μ := fun h => R.trk h hp
  refine ⟨by simp [R.len], ?_, fun i a o' h e => ?_⟩
  · rw [List.nodup_append]
    exact ⟨R.nd, by simp, fun a ha b hb => by rw [List.mem_singleton.mp hb]; rintro rfl; exact hn ha⟩
  · by_cases hi : i < μ.length
    · rw [List.getElem?_append_left hi] at h
      rw [List.getElem?_append_left (by rw [← R.len]; exact hi)] at e
      refine (R.ob i a o' h e).mono R (Ext.grow hp) ?_
      rw [upd_ne]
      rintro rfl
      exact hn (List.mem_of_getElem? h)
    · have hl : i = μ.length := by
        have := (List.getElem?_eq_some_iff.mp h).1
        simp at this
        omega
      subst hl
      rw [List.getElem?_append_right (Nat.le_refl _), Nat.sub_self] at h
      rw [R.len, List.getElem?_append_right (Nat.le_refl _), Nat.sub_self] at e
      simp at h e
      subst h e
      exact r
theorem NZ.dT {a : Addr} {vs : List (List Key × V)} (e : H a = some (.dT vs)) : NZ H a := .of e fun _ _ => nofun
end

theorem Ext.none' {K : PySem.W.Frag} {cm : CM} {μ μ1 : List Addr} {H H1 : Hp} {S1 : Store} (E : Ext μ H μ1 H1) (R : RS K cm μ1 S1 H1) {q : Addr} (h : H1 q = none) : H q = none := by
  cases he : H q with
  | none => rfl
  | some o =>
    by_cases ha : q ∈ μ
    · obtain ⟨i, hi⟩ := List.mem_iff_getElem?.mp ha
      exact absurd h (R.trk (List.mem_of_getElem? (E.pre i q hi)))
    · rw [E.kp q o he ha] at h; cases h
/-! a list that stands gets a number -/
section
variable {K : PySem.W.Frag} {cm : CM}
theorem adopt {μ : List Addr} {S : Store} {H : Hp} {a : Addr} {o : PObj} (R : RS K cm μ S H) (hm : a ∉ μ) (ha : RO K cm μ H a o)
    {μ0 : List Addr} {H0 : Hp} (E0 : Ext μ0 H0 μ H) (h0 : H0 a = none) : Ext μ0 H0 (μ ++ [a]) H ∧ RS K cm (μ ++ [a]) (S ++ [o]) H := by
  have E1 : ∀ (i : Nat) (b : Addr), μ[i]? = some b → (μ ++ [a])[i]? = some b := fun i b h => by
    rw [List.getElem?_append_left (List.getElem?_eq_some_iff.mp h).1]; exact h
  have up : Up μ H (μ ++ [a]) H := ⟨E1, fun _ _ h _ => h, fun _ _ _ h => h⟩
  refine ⟨⟨fun i b h => E1 i b (E0.pre i b h), fun b hb => ?_, E0.kp, E0.kz⟩, by simp [R.len], ?_, fun i b o' h e => ?_⟩
  · rcases List.mem_append.mp hb with hb | hb
    · exact E0.new b hb
    · rw [List.mem_singleton.mp hb]; exact .inr h0
  · rw [List.nodup_append]
    exact ⟨R.nd, by simp, fun x hx y hy => by rw [List.mem_singleton.mp hy]; rintro rfl; exact hm hx⟩
  · by_cases hi : i < μ.length
    · rw [List.getElem?_append_left hi] at h
      rw [List.getElem?_append_left (by rw [← R.len]; exact hi)] at e
      exact (R.ob i b o' h e).mono' R up rfl
    · have hl : i = μ.length := by
        have := (List.getElem?_eq_some_iff.mp h).1
        simp at this
        omega
      subst hl
      rw [List.getElem?_append_right (Nat.le_refl _), Nat.sub_self] at h
      rw [R.len, List.getElem?_append_right (Nat.le_refl _), Nat.sub_self] at e
      simp at h e
      subst h e
      exact ha.mono' R up rfl
end
/-! ### what is wanted behind a step -/
section
variable (K : PySem.W.Frag) (cm : CM)
abbrev atσ (W : WX) (σ : L2.St) : XK := fun c d H => W c d σ H
def SE (W : WX) (ev : TV) : TE := fun σ H Q => ∃ μ S ρ, RS K cm μ S H ∧ RE K μ H ρ σ ∧ Post K cm μ H (ev ρ S) Q (atσ W σ)
def ST (W : WX) (ev : TB) : TT := fun σ H Q => ∃ μ S ρ, RS K cm μ S H ∧ RE K μ H ρ σ ∧ PostB K cm μ H (ev ρ S) Q (atσ W σ)
def SA (W : WX) (ev : TVs) : TA := fun σ H Q => ∃ μ S ρ, RS K cm μ S H ∧ RE K μ H ρ σ ∧ PostA K cm μ H (ev ρ S) Q (atσ W σ)
def SL (W : WX) (ev : TL) : TE := fun σ H Q => ∃ μ S ρ, RS K cm μ S H ∧ RE K μ H ρ σ ∧ PostL K cm μ H (ev ρ S) Q (atσ W σ)
def SI (W : WX) (ev : TIt) : TI := fun σ H R => ∃ μ S ρ, RS K cm μ S H ∧ RE K μ H ρ σ ∧ PostI K cm μ H (ev ρ S) R (atσ W σ)
def SS (W : WX) (st : TSt) : TS := fun D σ H => ∃ μ S ρ, RS K cm μ S H ∧ RE K μ H ρ σ ∧ PostS K cm μ H (st ρ S) D W
end
end
/-! Fw2: expressions. -/
section
/-! ### weakening -/
section
variable {X : Cx}
end
section
variable {K : PySem.W.Frag} {cm : CM} {μ μ' μ1 μ2 : List Addr} {H H' H1 H2 : Hp} {S S' : Store} {ρ : Env'} {σ : L2.St} {W W' : XK}
/-! ### one step behind another -/
end

/-! ### the words of an expression -/
section
variable {X : Cx} {W : WX}
abbrev cmX (X : Cx) : CM := ⟨fun n c => X.mg n = some c, X.prog, X.w⟩
abbrev E_ (X : Cx) (W : WX) (ev : TV) : TE := SE X.K (cmX X) W ev
abbrev T_ (X : Cx) (W : WX) (ev : TB) : TT := ST X.K (cmX X) W ev
abbrev A_ (X : Cx) (W : WX) (ev : TVs) : TA := SA X.K (cmX X) W ev
abbrev L_ (X : Cx) (W : WX) (ev : TL) : TE := SL X.K (cmX X) W ev
abbrev I_ (X : Cx) (W : WX) (ev : TIt) : TI := SI X.K (cmX X) W ev
abbrev S_ (X : Cx) (W : WX) (st : TSt) : TS := SS X.K (cmX X) W st

def vChn (f g : PV → PV → Store → Option PV) (a b c : TV) : TV := fun ρ S => (a ρ S).bind fun x S => (b ρ S).bind fun y S =>
  match f x y S with
  | some (.bl true) => (c ρ S).bind fun z S => ofO (g y z S) S
  | some (.bl false) => .ok (.bl false) S
  | _ => .bad
theorem sv_var {i : Nat} {x : Str} {pos : Pos} (h : PE X (.Name x pos) (tVar i)) : PE X (.Name x pos) (E_ X W (vVar i)) := by
  refine PE.imp h fun σ H Q h => ?_
  obtain ⟨μ, S, ρ, R, E, p⟩ := h
  unfold vVar at p
  split at p
  · rename_i x hx
    obtain ⟨v, e, r⟩ := E.2 i x hx
    exact ⟨v, e, p μ H v Ext.refl R r⟩
  · exact p.elim
theorem sv_int {i : Int} {j pos} : PE X (.Constant (.int i) j pos) (E_ X W (vC (.int i))) :=
  PE.imp pe_int fun σ H Q ⟨μ, S, ρ, R, E, p⟩ => p μ H _ Ext.refl R (.int i)
theorem sv_bl {b : Bool} {j pos} : PE X (.Constant (.bool b) j pos) (E_ X W (vC (.bl b))) :=
  PE.imp pe_bl fun σ H Q ⟨μ, S, ρ, R, E, p⟩ => p μ H _ Ext.refl R (.bl b)
theorem sv_non {j pos} : PE X (.Constant .none j pos) (E_ X W (vC .non)) :=
  PE.imp pe_non fun σ H Q ⟨μ, S, ρ, R, E, p⟩ => p μ H _ Ext.refl R .non
theorem sv_str {x : Str} {j pos} : PE X (.Constant (.str x) j pos) (E_ X W (vStr x)) := by
  refine PE.imp pe_str fun σ H Q h => ?_
  obtain ⟨μ, S, ρ, R, E, p⟩ := h
  unfold vStr at p
  split at p
  · rename_i hl; exact p μ H _ Ext.refl R (.str x hl)
  · exact p.elim
/-- a binary operation on values -/
def rO (K : PySem.W.Frag) (cm : CM) (f : PV → PV → Store → Option PV) : R2 := fun v w H Q => ∃ μ S x y z, RS K cm μ S H ∧ RV K μ H x v ∧ RV K μ H y w ∧ f x y S = some z ∧
  ∀ H' u, Ext μ H μ H' → RS K cm μ S H' → RV K μ H' z u → Q u H'
def rU1 (K : PySem.W.Frag) (cm : CM) (f : PV → Store → Option PV) : V → Hp → VK → Prop := fun v H Q => ∃ μ S x z, RS K cm μ S H ∧ RV K μ H x v ∧ f x S = some z ∧
  ∀ H' u, Ext μ H μ H' → RS K cm μ S H' → RV K μ H' z u → Q u H'
abbrev OpS (X : Cx) (g : Value → Value → Sem Value) (f : PV → PV → Store → Option PV) : Prop := OpR X g (rO X.K (cmX X) f)
theorem vBin_imp {f : PV → PV → Store → Option PV} {ea eb : TV} {σ : L2.St} {H : Hp} {Q : VK} (h : E_ X W (vBin f ea eb) σ H Q) : tOp (rO X.K (cmX X) f) (E_ X W ea) (E_ X W eb) σ H Q := by
  obtain ⟨μ, S, ρ, R, E, p⟩ := h
  refine ⟨μ, S, ρ, R, E, Post.step (P := fun μ H r => Post X.K (cmX X) μ H r Q (atσ W σ)) p (fun _ _ h => h) (fun h => h) fun x S1 μ1 H1 v E1 R1 rv p => ?_⟩
  refine ⟨μ1, S1, ρ, R1, E.mono R E1, Post.step (P := fun μ H r => Post X.K (cmX X) μ H r Q (atσ W σ)) (p.ext E1) (fun _ _ h => h) (fun h => h) fun y S2 μ2 H2 w E2 R2 rw p => ?_⟩
  cases hf : f x y S2 with
  | none => rw [hf] at p; exact p.elim
  | some z =>
    rw [hf] at p
    exact ⟨μ2, S2, x, y, z, R2, rv.mono R1 E2, rw, hf, fun H' u E3 R3 r3 => p μ2 H' u (E2.trans E3) R3 r3⟩
variable {a b c : Expr} {ea eb ec : TV} {pos : Pos}
theorem sv_bin {op : Operator} {f : PV → PV → Store → Option PV} (ho : OpS X (binaryOp op) f) (ha : PE X a (E_ X W ea)) (hb : PE X b (E_ X W eb)) : PE X (.BinOp a op b pos) (E_ X W (vBin f ea eb)) :=
  PE.imp (pe_op ho ha hb) fun _ _ _ h => vBin_imp h
theorem sv_cmp {op : CmpOp} {f : PV → PV → Store → Option PV} (ho : OpS X (compareOp op) f) (ha : PE X a (E_ X W ea)) (hb : PE X b (E_ X W eb)) (hm : behindInMarks op b = false) : PE X (.Compare a [op] [b] pos) (E_ X W (vBin f ea eb)) :=
  PE.imp (pe_cmpR ho ha hb hm) fun _ _ _ h => vBin_imp h
theorem sv_un {op : UnaryOp} {f : PV → Store → Option PV} (ho : UnR X (unaryOp op) (rU1 X.K (cmX X) f)) (ha : PE X a (E_ X W ea)) : PE X (.UnaryOp op a pos) (E_ X W (vUn f ea)) := by
  refine PE.imp (pe_un ho ha) fun σ H Q h => ?_
  obtain ⟨μ, S, ρ, R, E, p⟩ := h
  refine ⟨μ, S, ρ, R, E, Post.step (P := fun μ H r => Post X.K (cmX X) μ H r Q (atσ W σ)) p (fun _ _ h => h) (fun h => h) fun x S1 μ1 H1 v E1 R1 rv p => ?_⟩
  cases hf : f x S1 with
  | none => rw [hf] at p; exact p.elim
  | some z =>
    rw [hf] at p
    exact ⟨μ1, S1, x, z, R1, rv, hf, fun H' u E3 R3 r3 => p μ1 H' u (E1.trans E3) R3 r3⟩
/-! ### truth -/
theorem isEmpty_of {α β : Type} {xs : List α} {ys : List β} (h : xs.length = ys.length) : xs.isEmpty = ys.isEmpty := by
  cases xs <;> cases ys <;> simp_all
theorem truth_ok {μ : List Addr} {S : Store} {H : Hp} {x : PV} {v : V} {b : Bool} {cm : CM} (R : RS X.K cm μ S H) (r : RV X.K μ H x v) (h : truth x S = some b) : TruV X.K v H b := by
  cases r with
  | non => cases h; rfl
  | bl b => cases h; rfl
  | int i => cases h; rfl
  | str y hl => cases h; exact ⟨hl.1, rfl⟩
  | tup s l r => cases h; exact .inr (.inl ⟨_, s.sq, by rw [isEmpty_of r.length]⟩)
  | frl s l r => cases h; exact .inl ⟨_, s.sq, by rw [isEmpty_of r.length]⟩
  | @ref i a hi =>
    simp only [truth] at h
    split at h
    · rename_i xs e
      obtain ⟨vs, e1, l, r⟩ := R.ob i a _ hi e
      cases h
      exact .inl ⟨vs, SqL.of e1, by rw [isEmpty_of r.length]⟩
    · rename_i kvs e
      obtain ⟨vs, e1, l, r⟩ := R.ob i a _ hi e
      cases h
      exact .inr (.inr ⟨vs, e1, by rw [isEmpty_of r.length]⟩)
    · cases h
theorem st_truth (ha : PE X a (E_ X W ea)) (he : ∀ whole, isTrue a X.env whole = (do let v ← whole; standAt a.pos; holding [v] (truthy v))) : PT X a (T_ X W (bV ea)) := by
  refine PT.imp (pt_truth ha he) fun σ H Q h => ?_
  obtain ⟨μ, S, ρ, R, E, p⟩ := h
  refine ⟨μ, S, ρ, R, E, Post.step (P := fun μ H r => PostB X.K (cmX X) μ H r Q (atσ W σ)) p (fun _ _ h => h) (fun h => h) fun x S1 μ1 H1 v E1 R1 rv p => ?_⟩
  cases hf : truth x S1 with
  | none => rw [hf] at p; exact p.elim
  | some b => rw [hf] at p; exact ⟨b, truth_ok R1 rv hf, p μ1 H1 E1 R1⟩
theorem st_cmp {op : CmpOp} {f : PV → PV → Store → Option PV} (ho : OpS X (compareOp op) f) (ha : PE X a (E_ X W ea)) (hb : PE X b (E_ X W eb)) (hm : behindInMarks op b = false) : PT X (.Compare a [op] [b] pos) (T_ X W (bBl (vBin f ea eb))) := by
  refine PT.imp (pt_cmpR ho ha hb hm) fun σ H Q h => ?_
  obtain ⟨μ, S, ρ, R, E, p⟩ := h
  refine vBin_imp ⟨μ, S, ρ, R, E, Post.step (P := fun μ H r => PostB X.K (cmX X) μ H r Q (atσ W σ)) p (fun _ _ h => h) (fun h => h) fun x S1 μ1 H1 v E1 R1 rv p => ?_⟩
  cases rv with
  | bl k => exact ⟨k, rfl, p μ1 H1 E1 R1⟩
  | _ => exact p.elim
/-! ### and, or, not, if -/
def vNot (a : TV) : TV := fun ρ S => (a ρ S).bind fun x S => match x with
  | .bl b => .ok (.bl (!b)) S
  | _ => .bad
def vIf (c : TB) (a b : TV) : TV := fun ρ S => (c ρ S).bind fun x S => if x = true then a ρ S else b ρ S
variable {ta tb : TB} {rest : List Expr}
theorem st_one_and (ha : PT X a (T_ X W ta)) : PW X (.BoolOp .And [a] pos) (T_ X W ta) := pw_and1 ha
theorem st_one_or (ha : PT X a (T_ X W ta)) : PW X (.BoolOp .Or [a] pos) (T_ X W ta) := pw_or1 ha
theorem st_and (ha : PT X a (T_ X W ta)) (hb : PW X (.BoolOp .And (b :: rest) pos) (T_ X W tb)) : PW X (.BoolOp .And (a :: b :: rest) pos) (T_ X W (bAnd ta tb)) := by
  refine PW.imp (pw_and ha hb) fun σ H Q h => ?_
  obtain ⟨μ, S, ρ, R, E, p⟩ := h
  refine ⟨μ, S, ρ, R, E, PostB.step (P := fun μ H r => PostB X.K (cmX X) μ H r Q (atσ W σ)) p (fun _ _ h => h) (fun h => h) fun x S1 μ1 H1 E1 R1 p => ?_⟩
  cases x with
  | true => exact ⟨μ1, S1, ρ, R1, E.mono R E1, p.ext E1⟩
  | false => exact p μ1 H1 E1 R1
theorem st_or (ha : PT X a (T_ X W ta)) (hb : PW X (.BoolOp .Or (b :: rest) pos) (T_ X W tb)) : PW X (.BoolOp .Or (a :: b :: rest) pos) (T_ X W (bOr ta tb)) := by
  refine PW.imp (pw_or ha hb) fun σ H Q h => ?_
  obtain ⟨μ, S, ρ, R, E, p⟩ := h
  refine ⟨μ, S, ρ, R, E, PostB.step (P := fun μ H r => PostB X.K (cmX X) μ H r Q (atσ W σ)) p (fun _ _ h => h) (fun h => h) fun x S1 μ1 H1 E1 R1 p => ?_⟩
  cases x with
  | false => exact ⟨μ1, S1, ρ, R1, E.mono R E1, p.ext E1⟩
  | true => exact p μ1 H1 E1 R1
theorem st_not (ha : PT X a (T_ X W ta)) : PT X (.UnaryOp .Not a pos) (T_ X W (bNot ta)) := by
  refine PT.imp (pt_not ha) fun σ H Q h => ?_
  obtain ⟨μ, S, ρ, R, E, p⟩ := h
  exact ⟨μ, S, ρ, R, E, PostB.step (P := fun μ H r => PostB X.K (cmX X) μ H r Q (atσ W σ)) p (fun _ _ h => h) (fun h => h) fun x S1 μ1 H1 E1 R1 p => p μ1 H1 E1 R1⟩
theorem sv_one {op} (h : PE X a (E_ X W ea)) : PE X (.BoolOp op [a] pos) (E_ X W ea) := pe_one h
theorem sv_and (ha : PE X a (E_ X W ea)) (hb : PE X (.BoolOp .And (b :: rest) pos) (E_ X W eb)) : PE X (.BoolOp .And (a :: b :: rest) pos) (E_ X W (vAnd ea eb)) := by
  refine PE.imp (pe_and ha hb) fun σ H Q h => ?_
  obtain ⟨μ, S, ρ, R, E, p⟩ := h
  refine ⟨μ, S, ρ, R, E, Post.step (P := fun μ H r => Post X.K (cmX X) μ H r Q (atσ W σ)) p (fun _ _ h => h) (fun h => h) fun x S1 μ1 H1 v E1 R1 rv p => ?_⟩
  cases rv with
  | bl k =>
    refine ⟨k, rfl, ?_⟩
    cases k with
    | true => exact ⟨μ1, S1, ρ, R1, E.mono R E1, Post.ext E1 p⟩
    | false => exact p μ1 H1 _ E1 R1 (.bl false)
  | _ => exact p.elim
theorem sv_or (ha : PE X a (E_ X W ea)) (hb : PE X (.BoolOp .Or (b :: rest) pos) (E_ X W eb)) : PE X (.BoolOp .Or (a :: b :: rest) pos) (E_ X W (vOr ea eb)) := by
  refine PE.imp (pe_or ha hb) fun σ H Q h => ?_
  obtain ⟨μ, S, ρ, R, E, p⟩ := h
  refine ⟨μ, S, ρ, R, E, Post.step (P := fun μ H r => Post X.K (cmX X) μ H r Q (atσ W σ)) p (fun _ _ h => h) (fun h => h) fun x S1 μ1 H1 v E1 R1 rv p => ?_⟩
  cases rv with
  | bl k =>
    refine ⟨k, rfl, ?_⟩
    cases k with
    | false => exact ⟨μ1, S1, ρ, R1, E.mono R E1, Post.ext E1 p⟩
    | true => exact p μ1 H1 _ E1 R1 (.bl true)
  | _ => exact p.elim
/-! ### lists of values; tuples and lists written out -/
theorem sa_nil : PA X [] (A_ X W vsNil) :=
  PA.imp pa_nil fun σ H Q ⟨μ, S, ρ, R, E, p⟩ => p μ H _ Ext.refl R .nil
theorem sa_cons {e : Expr} {es : List Expr} {ev : TV} {evs : TVs} (ha : PE X e (E_ X W ev)) (hr : PA X es (A_ X W evs)) (hs : starEach (e :: es) X.env = (false, eval e X.env) :: starEach es X.env := by rfl) : PA X (e :: es) (A_ X W (vsCons ev evs)) := by
  refine PA.imp (pa_cons ha hr hs) fun σ H Q h => ?_
  obtain ⟨μ, S, ρ, R, E, p⟩ := h
  refine ⟨μ, S, ρ, R, E, Post.step (P := fun μ H r => PostA X.K (cmX X) μ H r Q (atσ W σ)) p (fun _ _ h => h) (fun h => h) fun x S1 μ1 H1 v E1 R1 rv p => ?_⟩
  refine ⟨μ1, S1, ρ, R1, E.mono R E1, PostA.step (P := fun μ H r => PostA X.K (cmX X) μ H r Q (atσ W σ)) (p.ext E1) (fun _ _ h => h) (fun h => h) fun xs S2 μ2 H2 vs E2 R2 rvs p => ?_⟩
  exact p μ2 H2 _ E2 R2 (.cons (rv.mono R1 E2) rvs)
variable {es : List Expr} {evs : TVs} {el : TL}
/-- a written tuple, its object known -/
def tTupD (ta : TA) : TE := fun σ H Q => ta σ H fun ys J => ys.length ≤ sizeLine ∧ ∀ p (ob : Obj), ob.dict = none → J p = none → Q (.ref p) (upd J p (.frz ob (.tup ys)))
theorem _root_.L2.Inv.tupD {X : Cx} {pins : List (Addr × Obj)} {σ : L2.St} {H : Hp} {s : Shared} {ys : List V} {ws : List Value} (I : Inv X pins σ H s) (r : Vals ys ws) (z : ys.length ≤ sizeLine) (n : Nat) :
    Inv X pins σ (upd H s.heap.objs.size (.frz { cls := .type "tuple", data := .seq ws.toArray n } (.tup ys))) { s with heap := s.heap.push { cls := .type "tuple", data := .seq ws.toArray n } } :=
  have e : (s.heap.push { cls := .type "tuple", data := .seq ws.toArray n }).get? s.heap.objs.size = some { cls := .type "tuple", data := .seq ws.toArray n } := Heap.get?_push_size _ rfl
  I.laid (t' := s.toks) (fun _ _ h => Heap.get?_push_of_some _ h) (Nat.le_refl _) ⟨e, z, ws, r, _, e, rfl, _, rfl⟩
theorem pe_tupD {x1} {ta : TA} (h : PA X es ta) : PE X (.Tuple es x1 pos) (tTupD ta) := by
  constructor
  intro pins s σ H Q I hq
  refine wpAny_Tuple_spliced (thn (h.run pos pins s σ H _ I hq) fun ws t ⟨ys, J, IJ, r, z, q⟩ => ?_)
  exact ⟨by rw [← r.length]; exact z, .ref t.heap.objs.size, _, IJ.tupD r z 0, rfl, (by refine q _ _ ?_ (IJ.hok.fresh (Nat.le_refl _)); rfl)⟩
theorem sv_tup {x1} (h : PA X es (A_ X W evs)) : PE X (.Tuple es x1 pos) (E_ X W (vTup evs)) := by
  refine PE.imp (pe_tupD h) fun σ H Q h => ?_
  obtain ⟨μ, S, ρ, R, E, p⟩ := h
  refine ⟨μ, S, ρ, R, E, PostA.step (P := fun μ H r => Post X.K (cmX X) μ H r Q (atσ W σ)) p (fun _ _ h => h) (fun h => h) fun xs S1 μ1 H1 vs E1 R1 rvs p => ?_⟩
  split at p
  · rename_i hl
    refine ⟨by rw [← rvs.length]; exact hl, fun q ob hd hq => ?_⟩
    exact p μ1 _ _ (E1.trans (Ext.fresh hq)) (R1.fresh hq) (.tup (SqD.of hd) hl (rvs.mono R1 (Ext.fresh hq)))
  · exact p.elim
theorem sl_disp (h : PA X es (A_ X W evs)) : PE X (.List es pos) (L_ X W (lDisp evs)) := by
  refine PE.imp (pe_lst h) fun σ H Q h => ?_
  obtain ⟨μ, S, ρ, R, E, p⟩ := h
  refine ⟨μ, S, ρ, R, E, PostA.step (P := fun μ H r => PostL X.K (cmX X) μ H r Q (atσ W σ)) p (fun _ _ h => h) (fun h => h) fun xs S1 μ1 H1 vs E1 R1 rvs p => ?_⟩
  split at p
  · rename_i hl
    refine ⟨by rw [← rvs.length]; exact hl, fun q hq => ?_⟩
    exact p μ1 _ _ (E1.trans (Ext.fresh hq)) (R1.fresh hq) ⟨E1.none' R1 hq, fun hm => R1.trk hm hq, vs, upd_same, hl, rvs.mono R1 (Ext.fresh hq)⟩
  · exact p.elim
theorem sv_new {e : Expr} (h : PE X e (L_ X W el)) : PE X e (E_ X W (vNew el)) := by
  refine PE.imp h fun σ H Q h => ?_
  obtain ⟨μ, S, ρ, R, E, p⟩ := h
  refine ⟨μ, S, ρ, R, E, PostL.step (P := fun μ H r => Post X.K (cmX X) μ H r Q (atσ W σ)) p (fun _ _ h => h) (fun h => h) fun l S1 μ1 H1 a E1 R1 rl p => ?_⟩
  unfold RL at rl
  split at rl
  · rename_i hn
    rw [hn] at p
    obtain ⟨h0, hm, vs, ha, hl, r⟩ := rl
    obtain ⟨E2, R2⟩ := adopt (o := .lst l.1) R1 hm ⟨vs, ha, hl, r⟩ E1 h0
    refine p _ _ _ E2 R2 (.ref ?_)
    rw [List.getElem?_append_right (by rw [R1.len]; exact Nat.le_refl _), R1.len, Nat.sub_self]
    rfl
  · rename_i j hn
    rw [hn] at p
    exact p _ _ _ E1 R1 (.ref rl.1)
end
end
/-! Fw3: operations on values, subscripts, slices. -/
section
/-! ### data: equality -/
/-! no thing of the store in it -/
mutual
theorem PV.eqv_pd : ∀ x y : PV, x.dat = true → y.dat = true → PyData.eqv x.pd y.pd = PV.eqv x y
  | .tup xs, y, hx, hy => by
    cases y <;> simp only [PV.pd, PyData.eqv, PV.eqv]
    · exact PV.eqvs_pd xs _ (by simpa [PV.dat] using hx) (by simpa [PV.dat] using hy)
  | .frl xs, y, hx, hy => by
    cases y <;> simp only [PV.pd, PyData.eqv, PV.eqv]
    · exact PV.eqvs_pd xs _ (by simpa [PV.dat] using hx) (by simpa [PV.dat] using hy)
  | .ref _, y, hx, hy => by simp [PV.dat] at hx
  | .non, y, hx, hy => by cases y <;> first | rfl | (simp [PV.dat] at hy)
  | .bl _, y, hx, hy => by cases y <;> first | rfl | (simp [PV.dat] at hy) | simp only [PV.pd, PyData.eqv, PV.eqv]
  | .int _, y, hx, hy => by cases y <;> first | rfl | (simp [PV.dat] at hy) | simp only [PV.pd, PyData.eqv, PV.eqv]
  | .str _, y, hx, hy => by cases y <;> first | rfl | (simp [PV.dat] at hy) | simp only [PV.pd, PyData.eqv, PV.eqv]
theorem PV.eqvs_pd : ∀ xs ys : List PV, PV.dats xs = true → PV.dats ys = true → PyData.eqvAll (PV.pds xs) (PV.pds ys) = PV.eqvs xs ys
  | [], [], _, _ => rfl
  | [], _ :: _, _, _ => rfl
  | _ :: _, [], _, _ => rfl
  | x :: xs, y :: ys, hx, hy => by
    simp only [PV.dats, Bool.and_eq_true] at hx hy
    simp only [PV.pds, PyData.eqvAll, PV.eqvs, PV.eqv_pd x y hx.1 hy.1, PV.eqvs_pd xs ys hx.2 hy.2]
end
mutual
theorem PV.dep_pd : ∀ x : PV, x.pd.depth = x.dep
  | .tup xs => by simp only [PV.pd, PyData.depth, PV.dep, PV.deps_pd xs]
  | .frl xs => by simp only [PV.pd, PyData.depth, PV.dep, PV.deps_pd xs]
  | .non => rfl
  | .bl _ => rfl
  | .int _ => rfl
  | .str _ => rfl
  | .ref _ => rfl
theorem PV.deps_pd : ∀ xs : List PV, PyData.depthAll (PV.pds xs) = PV.deps xs
  | [] => rfl
  | x :: xs => by simp only [PV.pds, PyData.depthAll, PV.deps, PV.dep_pd x, PV.deps_pd xs]
end
section
variable {K : PySem.W.Frag} {cm : CM} {μ : List Addr} {H : Hp} {S : Store}
theorem deref_dp (R : RS K cm μ S H) {x : PV} {v : V} (r : RV K μ H x v) (d : (deref S x).dat = true) : Dp K H v (deref S x).pd ∧ (deref S x).pd.canLay0 = true := by
  cases r with
  | @ref i a hi =>
    simp only [deref] at d ⊢
    split at d
    · rename_i xs e
      obtain ⟨vs, e1, l, r⟩ := R.ob i a _ hi e
      obtain ⟨p, q⟩ := RVs.dp r (by simpa [PV.dat] using d)
      exact ⟨.lst (SqL.of e1) p, q⟩
    · simp [PV.dat] at d
  | non => exact RV.dp (μ := μ) .non d
  | bl b => exact RV.dp (μ := μ) (.bl b) d
  | int i => exact RV.dp (μ := μ) (.int i) d
  | str x h => exact RV.dp (μ := μ) (.str x h) d
  | tup s l r => exact RV.dp (μ := μ) (.tup s l r) d
  | frl s l r => exact RV.dp (μ := μ) (.frl s l r) d
/-- what stands at the address of a list or a tuple -/
theorem deref_seq (R : RS K cm μ S H) {x : PV} {v : V} (r : RV K μ H x v) :
    (∀ xs, deref S x = .frl xs → ∃ a vs, v = .ref a ∧ SqL K H a vs ∧ xs.length ≤ sizeLine ∧ RVs K μ H xs vs) ∧ (∀ xs, deref S x = .tup xs → ∃ a vs, v = .ref a ∧ SqD K H a vs ∧ xs.length ≤ sizeLine ∧ RVs K μ H xs vs) ∧ (∀ z, deref S x = .str z → v = .str z ∧ SOk z) ∧ (∀ z, deref S x = .int z → v = .int z) := by
  cases r with
  | @ref i a hi =>
    simp only [deref]
    split
    · rename_i xs e
      obtain ⟨vs, e1, l, r⟩ := R.ob i a _ hi e
      exact ⟨fun ys h => (by cases h; exact ⟨a, vs, rfl, SqL.of e1, l, r⟩), fun _ h => (by cases h), fun _ h => (by cases h), fun _ h => (by cases h)⟩
    · exact ⟨fun ys h => (by cases h), fun _ h => (by cases h), fun _ h => (by cases h), fun _ h => (by cases h)⟩
  | non => exact ⟨fun ys h => (by cases h), fun _ h => (by cases h), fun _ h => (by cases h), fun _ h => (by cases h)⟩
  | bl b => exact ⟨fun ys h => (by cases h), fun _ h => (by cases h), fun _ h => (by cases h), fun _ h => (by cases h)⟩
  | int i => exact ⟨fun ys h => (by cases h), fun _ h => (by cases h), fun _ h => (by cases h), fun _ h => (by cases h; rfl)⟩
  | str x hx => exact ⟨fun ys h => (by cases h), fun _ h => (by cases h), fun _ h => (by cases h; exact ⟨rfl, hx⟩), fun _ h => (by cases h)⟩
  | tup s l r => exact ⟨fun ys h => (by cases h), fun _ h => (by cases h; exact ⟨_, _, rfl, s, l, r⟩), fun _ h => (by cases h), fun _ h => (by cases h)⟩
  | frl s l r => exact ⟨fun ys h => (by cases h; exact ⟨_, _, rfl, s.sq, l, r⟩), fun _ h => (by cases h), fun _ h => (by cases h), fun _ h => (by cases h)⟩
end
/-! ### operations -/
def oLe (x y : PV) (_ : Store) : Option PV := match x, y with
  | .int a, .int b => some (.bl (decide (a ≤ b)))
  | _, _ => none
section
variable {X : Cx} {W : WX}
theorem strOk_app {a b : Str} (ha : PyData.strOk a = true) (hb : PyData.strOk b = true) : PyData.strOk (a ++ b) = true := by
  simp only [PyData.strOk, Array.all_eq_true_iff_forall_mem, decide_eq_true_eq] at ha hb ⊢
  intro c hc
  have : (a ++ b).cps = a.cps ++ b.cps := rfl
  rw [this, Array.mem_append] at hc
  exact hc.elim (ha c) (hb c)
/-- t + u of tuples, the new one known -/
def rCatD (K : PySem.W.Frag) : R2 := fun x y H Q => ∃ a b vs ws, x = .ref a ∧ y = .ref b ∧ SqT K H a vs ∧ SqT K H b ws ∧ vs.length + ws.length ≤ sizeLine ∧
  (vs = [] → Q y H) ∧ (vs ≠ [] → ws = [] → Q x H) ∧ (vs ≠ [] → ws ≠ [] → ∀ p (ob : Obj), ob.dict = none → H p = none → Q (.ref p) (upd H p (.frz ob (.tup (vs ++ ws)))))
theorem op_catD : OpR X (binaryOp .Add) (rCatD X.K) := by
  intro pins s σ H x y v u Q I rx ry h
  obtain ⟨a, b, vs, ws, rfl, rfl, sa, sb, hl, q0, q1, q2⟩ := h
  cases ry; cases rx
  obtain ⟨us, ra, ta, _⟩ := I.tuple sa
  obtain ⟨ts, rb, tb, _⟩ := I.tuple sb
  cases vs with
  | nil => cases ra; exact cat_tup0 ta tb ⟨.ref b, H, I, rfl, q0 rfl⟩
  | cons v0 vs =>
    have ne : us ≠ [] := fun e => by subst e; cases ra
    refine HT.cat_tup ta tb ne (fun e => ⟨.ref a, H, I, rfl, q1 (by simp) (rb.nil_iff.mp e)⟩) (fun e => ?_) (by rw [← ra.length, ← rb.length]; exact hl)
    exact ⟨.ref s.heap.objs.size, _, I.tupD (ra.append rb) (by rw [List.length_append]; exact hl) _, rfl, (by refine q2 (by simp) (fun w => e (rb.nil_iff.mpr w)) _ _ ?_ (I.hok.fresh (Nat.le_refl _)); rfl)⟩
theorem os_add : OpS X (binaryOp .Add) oAdd := by
  intro pins s σ H x y v u Q I rx ry h
  obtain ⟨μ, S, a, b, z, R, ra, rb, hf, q⟩ := h
  cases ra with
  | int i =>
    cases rb with
    | int j => cases hf; exact op_add pins s σ H _ _ v u Q I rx ry ⟨i, j, rfl, rfl, q H _ Ext.refl R (.int _)⟩
    | _ => simp [oAdd] at hf
  | str i hi =>
    cases rb with
    | str j hj =>
      simp only [oAdd] at hf
      split at hf
      · rename_i hl
        cases hf
        have hlen : (i ++ j).length = i.length + j.length := by simp [TL.len_tl, TL.tl_append]
        exact op_add_str pins s σ H _ _ v u Q I rx ry ⟨i, j, rfl, rfl, hl, q H _ Ext.refl R (.str _ ⟨by rw [hlen]; exact hl, strOk_app hi.2 hj.2⟩)⟩
      · cases hf
    | _ => simp [oAdd] at hf
  | @tup a1 xs vs s1 l1 r1 =>
    cases rb with
    | @tup a2 ys ws s2 l2 r2 =>
      simp only [oAdd] at hf
      split at hf
      · rename_i hl
        cases hf
        refine op_catD pins s σ H _ _ v u Q I rx ry ⟨a1, a2, vs, ws, rfl, rfl, s1.sq, s2.sq, by rw [← r1.length, ← r2.length]; exact hl, fun e => ?_, fun e1 e => ?_, fun e1 e2 p ob hd hp => ?_⟩
        · have : xs = [] := List.length_eq_zero_iff.mp (by rw [r1.length, e]; rfl)
          subst this
          exact q H _ Ext.refl R (.tup s2 l2 r2)
        · have : ys = [] := List.length_eq_zero_iff.mp (by rw [r2.length, e]; rfl)
          subst this
          rw [List.append_nil] at q
          exact q H _ Ext.refl R (.tup s1 l1 r1)
        · exact q _ _ (Ext.fresh hp) (R.fresh hp) (.tup (SqD.of hd) (by rw [List.length_append]; exact hl) ((r1.append r2).mono R (Ext.fresh hp)))
      · cases hf
    | _ => simp [oAdd] at hf
  | _ => simp [oAdd] at hf
/-- ints to an int -/
theorem osI {g : Value → Value → Sem Value} {C : Int → Int → Prop} {G : Int → Int → Int} {f : PV → PV → Store → Option PV} (ho : OpR X g (rI C fun i j => .int (G i j)))
    (hf : ∀ x y S z, f x y S = some z → ∃ i j, x = .int i ∧ y = .int j ∧ C i j ∧ z = .int (G i j)) : OpS X g f := by
  intro pins s σ H x y v u Q I rx ry h
  obtain ⟨μ, S, a, b, z, R, ra, rb, hz, q⟩ := h
  obtain ⟨i, j, rfl, rfl, c, rfl⟩ := hf _ _ _ _ hz
  cases ra; cases rb
  exact ho pins s σ H _ _ v u Q I rx ry ⟨i, j, rfl, rfl, c, q H _ Ext.refl R (.int _)⟩
theorem osB {g : Value → Value → Sem Value} {G : Int → Int → Bool} {f : PV → PV → Store → Option PV} (ho : OpR X g (rI0 fun i j => .bl (G i j)))
    (hf : ∀ x y S z, f x y S = some z → ∃ i j, x = .int i ∧ y = .int j ∧ z = .bl (G i j)) : OpS X g f := by
  intro pins s σ H x y v u Q I rx ry h
  obtain ⟨μ, S, a, b, z, R, ra, rb, hz, q⟩ := h
  obtain ⟨i, j, rfl, rfl, rfl⟩ := hf _ _ _ _ hz
  cases ra; cases rb
  exact ho pins s σ H _ _ v u Q I rx ry ⟨i, j, rfl, rfl, q H _ Ext.refl R (.bl _)⟩
theorem os_sub : OpS X (binaryOp .Sub) oSub := by
  refine osI (C := fun _ _ => True) (G := fun i j => i - j) (fun pins s σ H x y v u Q I rx ry ⟨i, j, e1, e2, _, q⟩ => op_sub pins s σ H x y v u Q I rx ry ⟨i, j, e1, e2, q⟩) fun x y S z h => ?_
  cases x <;> cases y <;> simp [oSub] at h
  exact ⟨_, _, rfl, rfl, trivial, h.symm⟩
theorem os_mul : OpS X (binaryOp .Mult) oMul := by
  refine osI op_mul fun x y S z h => ?_
  cases x <;> cases y <;> simp only [oMul] at h
  all_goals first | (split at h <;> first | (cases h; exact ⟨_, _, rfl, rfl, by assumption, rfl⟩) | cases h) | cases h
theorem os_div : OpS X (binaryOp .FloorDiv) oDiv := by
  refine osI op_fdiv fun x y S z h => ?_
  cases x <;> cases y <;> simp only [oDiv] at h
  all_goals first | (split at h <;> first | (cases h; exact ⟨_, _, rfl, rfl, by assumption, rfl⟩) | cases h) | cases h
theorem os_mod : OpS X (binaryOp .Mod) oMod := by
  refine osI op_mod fun x y S z h => ?_
  cases x <;> cases y <;> simp only [oMod] at h
  all_goals first | (split at h <;> first | (cases h; exact ⟨_, _, rfl, rfl, by assumption, rfl⟩) | cases h) | cases h
theorem os_pow : OpS X (binaryOp .Pow) oPow := by
  refine osI op_pow fun x y S z h => ?_
  cases x <;> cases y <;> simp only [oPow] at h
  all_goals first | (split at h <;> first | (cases h; exact ⟨_, _, rfl, rfl, by assumption, rfl⟩) | cases h) | cases h
theorem os_neg : UnR X (unaryOp .USub) (rU1 X.K (cmX X) oNeg) := by
  intro pins s σ H x v Q I rx h
  obtain ⟨μ, S, a, z, R, ra, hf, q⟩ := h
  cases ra with
  | int i => cases hf; exact un_neg pins s σ H _ v Q I rx ⟨i, rfl, q H _ Ext.refl R (.int _)⟩
  | _ => simp [oNeg] at hf
theorem os_lt : OpS X (compareOp .Lt) oLt := by
  intro pins s σ H x y v u Q I rx ry h
  obtain ⟨μ, S, a, b, z, R, ra, rb, hf, q⟩ := h
  cases ra with
  | int i =>
    cases rb with
    | int j => cases hf; exact op_lt pins s σ H _ _ v u Q I rx ry ⟨i, j, rfl, rfl, q H _ Ext.refl R (.bl _)⟩
    | _ => simp [oLt] at hf
  | str i hi =>
    cases rb with
    | str j hj => cases hf; exact op_lt_str pins s σ H _ _ v u Q I rx ry ⟨i, j, rfl, rfl, q H _ Ext.refl R (.bl _)⟩
    | _ => simp [oLt] at hf
  | _ => simp [oLt] at hf
theorem os_gt : OpS X (compareOp .Gt) oGt := by
  refine osB op_gt fun x y S z h => ?_
  cases x <;> cases y <;> simp only [oGt] at h <;> first | (cases h; exact ⟨_, _, rfl, rfl, rfl⟩) | cases h
theorem os_ge : OpS X (compareOp .GtE) oGe := by
  refine osB op_ge fun x y S z h => ?_
  cases x <;> cases y <;> simp only [oGe] at h <;> first | (cases h; exact ⟨_, _, rfl, rfl, rfl⟩) | cases h
/-- with an empty one: both answers -/
theorem empty_core {pins : List (Addr × Obj)} {s : Shared} {σ : L2.St} {H : Hp} {x y : PV} {v w : V} {cv cw : Value} {μ : List Addr} {S : Store} {b : Bool} (hu : X.A.units + 195 < cLine) (I : Inv X pins σ H s) (R : RS X.K (cmX X) μ S H) (rx : RV X.K μ H x v) (ry : RV X.K μ H y w) (cx : RelV v cv) (cy : RelV w cw)
    (h : emptyEq (deref S x) (deref S y) = some b) : (∀ Q : Value → Shared → Prop, Q (.bool b) s → wpAny (model X.prog X.w) X.A (compareOp .Eq cv cw) Q X.xe s) ∧ ∀ Q : Value → Shared → Prop, Q (.bool (!b)) s → wpAny (model X.prog X.w) X.A (compareOp .NotEq cv cw) Q X.xe s := by
  have dx := deref_seq R rx
  have dy := deref_seq R ry
  unfold emptyEq at h
  split at h
  · rename_i xs ys ex ey
    split at h
    · rename_i hc
      cases h
      obtain ⟨a, vs, rfl, s1, l1, r1⟩ := dx.2.1 xs ex
      obtain ⟨a2, ws, rfl, s2, l2, r2⟩ := dy.2.1 ys ey
      cases cx; cases cy
      obtain ⟨i1, v1, p1, _⟩ := I.tuple s1.sq
      obtain ⟨i2, v2, p2, _⟩ := I.tuple s2.sq
      have n1 : i1.toArray.size = xs.length := by rw [r1.length, v1.length]; simp
      have n2 : i2.toArray.size = ys.length := by rw [r2.length, v2.length]; simp
      have hm : min i1.toArray.size i2.toArray.size = 0 := by
        rw [n1, n2]
        simp only [Bool.or_eq_true, List.isEmpty_iff] at hc
        rcases hc with h | h <;> (rw [h]; simp)
      have e : ((List.range (min i1.toArray.size i2.toArray.size)).all (fun _ => true) && i1.toArray.size == i2.toArray.size) = (xs.length == ys.length) := by
        rw [n1, n2]; simp
      refine ⟨fun Q q => ?_, fun Q q => ?_⟩
      · refine SeqAt.RcAt.tuples (e := fun _ => true) p1 p2 (by omega) (fun j h1 h2 => ?_) X.prog X.w X.xe Q (by rw [e]; exact q)
        have : j < min i1.toArray.size i2.toArray.size := Nat.lt_min.mpr ⟨h1, h2⟩
        omega
      · refine SeqAt.RcNeAt.tuples (e := fun _ => true) p1 p2 (by omega) (fun j h1 h2 => ?_) X.prog X.w X.xe Q (by rw [e]; exact q)
        have : j < min i1.toArray.size i2.toArray.size := Nat.lt_min.mpr ⟨h1, h2⟩
        omega
    · cases h
  · rename_i xs ys ex ey
    split at h
    · rename_i hc
      cases h
      obtain ⟨a, vs, rfl, s1, l1, r1⟩ := dx.1 xs ex
      obtain ⟨a2, ws, rfl, s2, l2, r2⟩ := dy.1 ys ey
      cases cx; cases cy
      obtain ⟨i1, v1, p1, _⟩ := I.list s1
      obtain ⟨i2, v2, p2, _⟩ := I.list s2
      have n1 : i1.toArray.size = xs.length := by rw [r1.length, v1.length]; simp
      have n2 : i2.toArray.size = ys.length := by rw [r2.length, v2.length]; simp
      by_cases hn : xs.length = ys.length
      · have h0 : i1.toArray.size = 0 := by
          simp only [Bool.or_eq_true, List.isEmpty_iff] at hc
          rw [n1]
          rcases hc with h | h
          · rw [h]; rfl
          · rw [hn, h]; rfl
        have e : ((List.range i1.toArray.size).all (fun _ => true)) = (xs.length == ys.length) := by rw [hn]; simp
        refine ⟨fun Q q => ?_, fun Q q => ?_⟩
        · exact SeqAt.RcAt.lists (e := fun _ => true) p1.isList p2.isList (by rw [n1, n2, hn]) (by omega) (fun j h1 h2 => by omega) X.prog X.w X.xe Q (by rw [e]; exact q)
        · exact SeqAt.RcNeAt.lists (e := fun _ => true) p1.isList p2.isList (by rw [n1, n2, hn]) (by omega) (fun j h1 h2 => by omega) X.prog X.w X.xe Q (by rw [e]; exact q)
      · have e : (xs.length == ys.length) = false := by simpa using hn
        rw [e]
        refine ⟨fun Q q => ?_, fun Q q => ?_⟩
        · exact SeqAt.RcAt.lists_lengths p1.isList p2.isList (by rw [n1, n2]; simpa using hn) (by omega) X.prog X.w X.xe Q q
        · exact SeqAt.RcNeAt.lists_lengths p1.isList p2.isList (by rw [n1, n2]; simpa using hn) (by omega) X.prog X.w X.xe Q q
    · cases h
  · cases h
theorem os_eq (hu : X.A.units + 195 < cLine) : OpS X (compareOp .Eq) oEq := by
  intro pins s σ H x y v u Q I rx ry h
  obtain ⟨μ, S, a, b, z, R, ra, rb, hf, q⟩ := h
  simp only [oEq, eqS] at hf
  split at hf
  · rename_i hc
    cases hf
    obtain ⟨d1, c1⟩ := deref_dp R ra hc.1
    obtain ⟨d2, c2⟩ := deref_dp R rb hc.2.1
    obtain ⟨as, w1⟩ := d1.reads I _ _ _ rx
    obtain ⟨bs, w2⟩ := d2.reads I _ _ _ ry
    refine SeqAt.compareEq_reads w1 w2 c1 c2 ?_ ⟨.bl _, H, I, ?_, q H _ Ext.refl R (.bl _)⟩
    · have := Nat.min_le_left (deref S a).pd.depth (deref S b).pd.depth
      have h2 := hc.2.2
      rw [← PV.dep_pd] at h2
      unfold deepest at h2
      omega
    · rw [PV.eqv_pd _ _ hc.1 hc.2.1]; rfl
  · simp only [Option.map_eq_some_iff] at hf
    obtain ⟨k, hk, rfl⟩ := hf
    exact (empty_core hu I R ra rb rx ry hk).1 _ ⟨.bl _, H, I, rfl, q H _ Ext.refl R (.bl _)⟩
theorem os_ne (hu : X.A.units + 195 < cLine) : OpS X (compareOp .NotEq) oNe := by
  intro pins s σ H x y v u Q I rx ry h
  obtain ⟨μ, S, a, b, z, R, ra, rb, hf, q⟩ := h
  simp only [oNe, eqS] at hf
  split at hf
  · rename_i hc
    cases hf
    obtain ⟨d1, c1⟩ := deref_dp R ra hc.1
    obtain ⟨d2, c2⟩ := deref_dp R rb hc.2.1
    obtain ⟨as, w1⟩ := d1.reads I _ _ _ rx
    obtain ⟨bs, w2⟩ := d2.reads I _ _ _ ry
    refine SeqAt.compareNe_reads w1 w2 c1 c2 ?_ ⟨.bl _, H, I, ?_, q H _ Ext.refl R (.bl _)⟩
    · have := Nat.min_le_left (deref S a).pd.depth (deref S b).pd.depth
      have h2 := hc.2.2
      rw [← PV.dep_pd] at h2
      unfold deepest at h2
      omega
    · rw [PV.eqv_pd _ _ hc.1 hc.2.1]; rfl
  · simp only [Option.map_eq_some_iff] at hf
    obtain ⟨k, hk, rfl⟩ := hf
    exact (empty_core hu I R ra rb rx ry hk).2 _ ⟨.bl _, H, I, rfl, q H _ Ext.refl R (.bl _)⟩
theorem any_pds (d : PV) (hd : d.dat = true) : ∀ ys : List PV, PV.dats ys = true → ((PV.pds ys).any fun y => PyData.eqv y d.pd) = ys.any fun z => PV.eqv z d
  | [], _ => rfl
  | y :: ys, h => by
    simp only [PV.dats, Bool.and_eq_true] at h
    simp only [PV.pds, List.any_cons, any_pds d hd ys h.2, PV.eqv_pd y d h.1 hd]
theorem in_core {op : CmpOp} {N : Bool → Bool} (hu : X.A.units + 195 < cLine)
    (rl : ∀ {s : Shared} {c x : Value} {xs : List PyData} {d : PyData} {as bs : List Addr} {Q : Value → Shared → Prop}, Reads s.heap c (.list xs) as → Reads s.heap x d bs → PyData.canLayAll0 xs = true → d.canLay0 = true →
      X.A.units + 1 + min (PyData.depthAll xs) d.depth < cLine → Q (.bool (N (xs.any fun y => PyData.eqv y d))) s → wpAny (model X.prog X.w) X.A (compareOp op x c) Q X.xe s)
    (rt : ∀ {s : Shared} {c x : Value} {xs : List PyData} {d : PyData} {as bs : List Addr} {Q : Value → Shared → Prop}, Reads s.heap c (.tuple xs) as → Reads s.heap x d bs → PyData.canLayAll0 xs = true → d.canLay0 = true →
      X.A.units + 1 + min (PyData.depthAll xs) d.depth < cLine → Q (.bool (N (xs.any fun y => PyData.eqv y d))) s → wpAny (model X.prog X.w) X.A (compareOp op x c) Q X.xe s)
    (rs : OpR X (compareOp op) (fun x y H Q => ∃ i j, x = .str i ∧ y = .str j ∧ Q (.bl (N (inStr i j))) H)) : OpS X (compareOp op) (fun x y S => (inS S x y).map fun b => .bl (N b)) := by
  intro pins s σ H x y v u Q I rx ry h
  obtain ⟨μ, S, a, b, z, R, ra, rb, hf, q⟩ := h
  simp only [inS] at hf
  have hs := deref_seq R rb
  split at hf
  · rename_i ys he
    split at hf
    · rename_i hc
      cases hf
      obtain ⟨d1, c1⟩ := deref_dp R ra hc.1
      obtain ⟨p, vs, rfl, sq, l, r⟩ := hs.1 ys he
      obtain ⟨d2, c2⟩ := RVs.dp r hc.2.1
      obtain ⟨as, w1⟩ := d1.reads I _ _ _ rx
      obtain ⟨bs, w2⟩ := (Dp.lst sq d2).reads I _ _ _ ry
      refine rl w2 w1 c2 c1 ?_ ⟨.bl _, H, I, ?_, q H _ Ext.refl R (.bl _)⟩
      · have := Nat.min_le_left (PyData.depthAll (PV.pds ys)) (deref S a).pd.depth
        have h2 := hc.2.2
        rw [← PV.deps_pd] at h2
        unfold deepest at h2
        omega
      · rw [any_pds _ hc.1 _ hc.2.1]; rfl
    · cases hf
  · rename_i ys he
    split at hf
    · rename_i hc
      cases hf
      obtain ⟨d1, c1⟩ := deref_dp R ra hc.1
      obtain ⟨p, vs, rfl, sq, l, r⟩ := hs.2.1 ys he
      obtain ⟨d2, c2⟩ := RVs.dp r hc.2.1
      obtain ⟨as, w1⟩ := d1.reads I _ _ _ rx
      obtain ⟨bs, w2⟩ := (Dp.tup sq.sq d2).reads I _ _ _ ry
      refine rt w2 w1 c2 c1 ?_ ⟨.bl _, H, I, ?_, q H _ Ext.refl R (.bl _)⟩
      · have := Nat.min_le_left (PyData.depthAll (PV.pds ys)) (deref S a).pd.depth
        have h2 := hc.2.2
        rw [← PV.deps_pd] at h2
        unfold deepest at h2
        omega
      · rw [any_pds _ hc.1 _ hc.2.1]; rfl
    · cases hf
  · rename_i t he
    cases ra with
    | str i hi =>
      cases hf
      obtain ⟨rfl, _⟩ := hs.2.2.1 t he
      exact rs pins s σ H _ _ v u Q I rx ry ⟨i, t, rfl, rfl, q H _ Ext.refl R (.bl _)⟩
    | _ => simp at hf
  · cases hf
theorem os_in (hu : X.A.units + 195 < cLine) : OpS X (compareOp .In) oIn :=
  in_core (N := fun b => b) hu (fun r1 r2 c1 c2 hu h => SeqAt.in_list_reads r1 r2 c1 c2 hu h) (fun r1 r2 c1 c2 hu h => SeqAt.in_tuple_reads r1 r2 c1 c2 hu h) op_in_str
theorem os_notIn (hu : X.A.units + 195 < cLine) : OpS X (compareOp .NotIn) oNotIn :=
  in_core (N := fun b => !b) hu (fun r1 r2 c1 c2 hu h => SeqAt.notIn_list_reads r1 r2 c1 c2 hu h) (fun r1 r2 c1 c2 hu h => SeqAt.notIn_tuple_reads r1 r2 c1 c2 hu h) op_notin_str
theorem isNon_iff {K : PySem.W.Frag} {μ : List Addr} {H : Hp} {x : PV} {v : V} (r : RV K μ H x v) : decide (v = .non) = x.isNon := by
  cases r <;> rfl
theorem os_is : OpS X (compareOp .Is) oIs := by
  intro pins s σ H x y v u Q I rx ry h
  obtain ⟨μ, S, a, b, z, R, ra, rb, hf, q⟩ := h
  simp only [oIs] at hf
  split at hf
  · rename_i hn
    cases hf
    cases rb with
    | non => exact op_isN pins s σ H _ _ v u Q I rx ry ⟨rfl, q H _ Ext.refl R (by rw [isNon_iff ra]; exact .bl _)⟩
    | _ => cases hn
  · cases hf
theorem os_isNot : OpS X (compareOp .IsNot) oIsNot := by
  intro pins s σ H x y v u Q I rx ry h
  obtain ⟨μ, S, a, b, z, R, ra, rb, hf, q⟩ := h
  simp only [oIsNot] at hf
  split at hf
  · rename_i hn
    cases hf
    cases rb with
    | non => exact op_notN pins s σ H _ _ v u Q I rx ry ⟨rfl, q H _ Ext.refl R (by rw [isNon_iff ra]; exact .bl _)⟩
    | _ => cases hn
  · cases hf
end
end
/-! Fw4: subscripts, slices, calls of built-in functions, methods of texts. -/
section
/-! ### subscripts -/
theorem strOk_one {z : Str} {c : Nat} (h : PyData.strOk z = true) (m : c ∈ z.cps.toList) : SOk ⟨#[c]⟩ := by
  refine ⟨by show 1 ≤ sizeLine; decide, ?_⟩
  simp only [PyData.strOk, Array.all_eq_true_iff_forall_mem, decide_eq_true_eq] at h ⊢
  intro d hd
  have : d = c := by simpa using hd
  subst this
  exact h d (by simpa using m)
theorem atI_mem {α : Type} {xs : List α} {k : Int} {z : α} (h : atI xs k = some z) : z ∈ xs := by
  obtain ⟨j, _, e, _⟩ := atI_get h
  exact List.mem_of_getElem? e
section
variable {X : Cx} {W : WX} {a b : Expr} {ea eb : TV} {pos : Pos}
theorem os_idx : IxR X (rO X.K (cmX X) oIdx) := by
  intro value slice pins s σ H x y v u Q I rx ry h hp
  obtain ⟨μ, S, p, i, z, R, ra, rb, hf, q⟩ := h
  have hs := deref_seq R ra
  simp only [oIdx] at hf
  split at hf
  · rename_i xs k he
    obtain ⟨ad, vs, rfl, sq, l, r⟩ := hs.2.1 xs he
    obtain ⟨w, hw, rw⟩ := r.at hf
    cases rb
    exact ix_tup value slice pins s σ H _ _ v u Q I rx ry ⟨ad, vs, k, w, rfl, rfl, sq.sq, hw, q H _ Ext.refl R rw⟩ hp
  · rename_i xs k he
    obtain ⟨ad, vs, rfl, sq, l, r⟩ := hs.1 xs he
    obtain ⟨w, hw, rw⟩ := r.at hf
    cases rb
    exact ix_list value slice pins s σ H _ _ v u Q I rx ry ⟨ad, vs, k, w, rfl, rfl, sq, hw, q H _ Ext.refl R rw⟩ hp
  · rename_i t k he
    obtain ⟨rfl, ok⟩ := hs.2.2.1 t he
    cases rb
    cases hc : atI t.cps.toList k with
    | none => rw [hc] at hf; cases hf
    | some c =>
      rw [hc] at hf
      cases hf
      exact ix_str value slice pins s σ H _ _ v u Q I rx ry ⟨t, k, c, rfl, rfl, ok.1, hc, q H _ Ext.refl R (.str _ (strOk_one ok.2 (atI_mem hc)))⟩ hp
  · cases hf
theorem sv_idx (ha : PE X a (E_ X W ea)) (hb : PE X b (E_ X W eb)) (hs : PlainIx b) : PE X (.Subscript a b pos) (E_ X W (vBin oIdx ea eb)) :=
  PE.imp (pe_ix os_idx ha hb hs) fun _ _ _ h => vBin_imp h
/-! ### slices -/
def SO (K : PySem.W.Frag) (cm : CM) (W : WX) (ev : TOv) : TO := fun σ H Q => ∃ μ S ρ, RS K cm μ S H ∧ RE K μ H ρ σ ∧ PostO K cm μ H (ev ρ S) Q (atσ W σ)
abbrev O_ (X : Cx) (W : WX) (ev : TOv) : TO := SO X.K (cmX X) W ev
theorem PO_imp {e : Option Expr} {t t' : TO} (h : PO X e t) (w : ∀ σ H Q, t' σ H Q → t σ H Q) : PO X e t' := ⟨fun pins s σ H Q I q => h.run pins s σ H Q I (w σ H Q q)⟩
theorem so_none : PO X none (O_ X W oNone) := PO_imp po_none fun σ H Q ⟨μ, S, ρ, R, E, p⟩ => p μ H Ext.refl R
theorem so_some {e : Expr} {ev : TV} (h : PE X e (E_ X W ev)) : PO X (some e) (O_ X W (oSome ev)) := by
  refine PO_imp (po_some h) fun σ H Q h => ?_
  obtain ⟨μ, S, ρ, R, E, p⟩ := h
  refine ⟨μ, S, ρ, R, E, Post.step (P := fun μ H r => PostO X.K (cmX X) μ H r Q (atσ W σ)) p (fun _ _ h => h) (fun h => h) fun x S1 μ1 H1 v E1 R1 rv p => ?_⟩
  cases rv with
  | int i => exact ⟨i, rfl, p μ1 H1 E1 R1⟩
  | _ => exact p.elim
theorem RVs.cut {K : PySem.W.Frag} {μ : List Addr} {H : Hp} {xs : List PV} {vs : List V} (r : RVs K μ H xs vs) (lo hi : Option Int) : RVs K μ H (cutL xs lo hi) (cutV vs lo hi) := by
  unfold cutL cutV
  rw [← r.length]
  exact (r.drop _).take _
theorem cutL_length {α : Type} (xs : List α) (lo hi : Option Int) : (cutL xs lo hi).length ≤ xs.length := by
  unfold cutL
  rw [List.length_take, List.length_drop]
  omega
theorem strCut_slice (z : Str) (lo hi : Option Int) : strCut z lo hi = Txt.slice z lo hi := by
  rw [← C8.cutS_slice]
  unfold strCut cutS cutL
  have e : z.length = z.cps.toList.length := by show z.cps.size = _; simp
  rw [e]
theorem SOk.cut {z : Str} (h : SOk z) (lo hi : Option Int) : SOk (strCut z lo hi) := by
  refine ⟨?_, ?_⟩
  · have := cutL_length z.cps.toList lo hi
    have e : (strCut z lo hi).length = (cutL z.cps.toList lo hi).length := by show (strCut z lo hi).cps.size = _; simp [strCut]
    have e2 : z.length = z.cps.toList.length := by show z.cps.size = _; simp
    rw [e]
    have := h.1
    omega
  · have h2 := h.2
    simp only [PyData.strOk, Array.all_eq_true_iff_forall_mem, decide_eq_true_eq] at h2 ⊢
    intro c hc
    refine h2 c ?_
    have hc' : c ∈ cutL z.cps.toList lo hi := by simpa [strCut] using hc
    unfold cutL at hc'
    simpa using List.mem_of_mem_drop (List.mem_of_mem_take hc')
def rSlS (K : PySem.W.Frag) (cm : CM) : V → Option Int → Option Int → Hp → VK → Prop := fun v lo hi H Q => ∃ μ S x, RS K cm μ S H ∧ RV K μ H x v ∧
  ((∃ xs, deref S x = .tup xs ∧ ∀ H' u, Ext μ H μ H' → RS K cm μ S H' → RV K μ H' (.tup (cutL xs lo hi)) u → Q u H') ∨
   (∃ z, deref S x = .str z ∧ ∀ H' u, Ext μ H μ H' → RS K cm μ S H' → RV K μ H' (.str (strCut z lo hi)) u → Q u H') ∨
   (∃ xs, deref S x = .frl xs ∧ ∀ H' p vs, H p = none → H' = upd H p (.lst vs) → RVs K μ H' (cutL xs lo hi) vs → (cutL xs lo hi).length ≤ sizeLine → Q (.ref p) H'))
/-- t[lo:hi], the new one known -/
theorem sl_tupD : SlR X (fun x lo hi H Q => ∃ a vs, x = .ref a ∧ SqT X.K H a vs ∧ (HT.sIx vs.length 0 lo = 0 ∧ HT.sIx vs.length vs.length hi = vs.length → Q x H) ∧
    (¬ (HT.sIx vs.length 0 lo = 0 ∧ HT.sIx vs.length vs.length hi = vs.length) → ∀ p (ob : Obj), ob.dict = none → H p = none → Q (.ref p) (upd H p (.frz ob (.tup (cutV vs lo hi)))))) := by
  intro pins s σ H x v vl vu lo hi sl Q I rx hs pl pu h
  obtain ⟨a, vs, rfl, sq, q1, q2⟩ := h
  cases rx
  obtain ⟨us, rr, tt, zz⟩ := I.tuple sq
  have el : us.toArray.size = vs.length := List.size_toArray.trans rr.length.symm
  refine ⟨"tuple", _, PyProof.Rows.slot_tuple_getitem.lookup, tt.typeIs, ?_⟩
  by_cases c : HT.sIx vs.length 0 lo = 0 ∧ HT.sIx vs.length vs.length hi = vs.length
  · exact getItem_tuple_whole tt hs pl pu (el.symm ▸ c) ⟨.ref a, H, I, rfl, q1 c⟩
  · refine HT.getItem_tuple_cut tt hs pl pu (el.symm ▸ c) ?_ (el.symm ▸ zz)
    rw [el]
    exact ⟨.ref s.heap.objs.size, _, I.tupD ((rr.drop _).take _) (Nat.le_trans (cutV_length vs lo hi) zz) _, rfl, (by refine q2 c _ _ ?_ (I.hok.fresh (Nat.le_refl _)); rfl)⟩
theorem sl_any : SlR X (rSlS X.K (cmX X)) := by
  intro pins s σ H x v vl vu lo hi sl Q I rx hs pl pu h
  obtain ⟨μ, S, p, R, ra, h⟩ := h
  have ds := deref_seq R ra
  rcases h with ⟨xs, e, q⟩ | ⟨z, e, q⟩ | ⟨xs, e, q⟩
  · obtain ⟨ad, vs, rfl, sq, l, r⟩ := ds.2.1 xs e
    have lc := Nat.le_trans (cutL_length xs lo hi) l
    refine sl_tupD pins s σ H _ v vl vu lo hi sl Q I rx hs pl pu ⟨ad, vs, rfl, sq.sq, fun hw => ?_, fun hw p ob hd hp => ?_⟩
    · refine q H _ Ext.refl R (.tup sq lc ?_)
      have : cutL xs lo hi = xs := by
        unfold cutL
        rw [r.length, hw.1, hw.2, Nat.sub_zero, List.drop_zero, ← r.length, List.take_length]
      rw [this]; exact r
    · exact q _ _ (Ext.fresh hp) (R.fresh hp) (.tup (SqD.of hd) lc ((r.cut lo hi).mono R (Ext.fresh hp)))
  · obtain ⟨rfl, ok⟩ := ds.2.2.1 z e
    exact C8.sl_txt pins s σ H _ v vl vu lo hi sl Q I rx hs pl pu ⟨z, rfl, ok.1, by rw [← strCut_slice]; exact q H _ Ext.refl R (.str _ (ok.cut lo hi))⟩
  · obtain ⟨ad, vs, rfl, sq, l, r⟩ := ds.1 xs e
    exact sl_list pins s σ H _ v vl vu lo hi sl Q I rx hs pl pu ⟨ad, vs, rfl, sq, fun p hp => q _ p _ hp rfl ((r.cut lo hi).mono R (Ext.fresh hp)) (Nat.le_trans (cutL_length xs lo hi) l)⟩
variable {lo hi : Option Expr} {el eh : TOv} {p2 : Pos}
theorem sv_slc (ha : PE X a (E_ X W ea)) (hl : PO X lo (O_ X W el)) (hh : PO X hi (O_ X W eh)) : PE X (.Subscript a (.Slice lo hi none p2) pos) (E_ X W (vSlc ea el eh)) := by
  refine PE.imp (pe_slice sl_any ha hl hh) fun σ H Q h => ?_
  obtain ⟨μ, S, ρ, R, E, p⟩ := h
  refine ⟨μ, S, ρ, R, E, Post.step (P := fun μ H r => Post X.K (cmX X) μ H r Q (atσ W σ)) p (fun _ _ h => h) (fun h => h) fun x S1 μ1 H1 v E1 R1 rv p => ?_⟩
  refine ⟨μ1, S1, ρ, R1, E.mono R E1, PostO.step (P := fun μ H r => Post X.K (cmX X) μ H r Q (atσ W σ)) (p.ext E1) (fun _ _ h => h) (fun h => h) fun l S2 μ2 H2 E2 R2 p => ?_⟩
  refine ⟨μ2, S2, ρ, R2, (E.mono R E1).mono R1 E2, PostO.step (P := fun μ H r => Post X.K (cmX X) μ H r Q (atσ W σ)) (p.ext E2) (fun _ _ h => h) (fun h => h) fun u S3 μ3 H3 E3 R3 p => ?_⟩
  refine ⟨μ3, S3, x, R3, (rv.mono R1 E2).mono R2 E3, ?_⟩
  split at p
  · rename_i xs e
    exact .inl ⟨xs, e, fun H' u E4 R4 r4 => p μ3 H' u (E3.trans E4) R4 r4⟩
  · rename_i z e
    exact .inr (.inl ⟨z, e, fun H' u E4 R4 r4 => p μ3 H' u (E3.trans E4) R4 r4⟩)
  · rename_i xs e
    refine .inr (.inr ⟨xs, e, fun H' q vs hq he r hl => ?_⟩)
    subst he
    refine p (μ3 ++ [q]) _ _ (E3.trans (Ext.grow hq)) (R3.grow hq ⟨vs, upd_same, hl, r.mono' (R3.fresh hq) ⟨fun i b h => ?_, fun _ _ h _ => h, fun _ _ _ h => h⟩⟩) (.ref ?_)
    · rw [List.getElem?_append_left (List.getElem?_eq_some_iff.mp h).1]; exact h
    · rw [List.getElem?_append_right (by rw [R3.len]; exact Nat.le_refl _), R3.len, Nat.sub_self]; rfl
  · exact p.elim
theorem sl_slc (ha : PE X a (E_ X W ea)) (hl : PO X lo (O_ X W el)) (hh : PO X hi (O_ X W eh)) : PE X (.Subscript a (.Slice lo hi none p2) pos) (L_ X W (lSlc ea el eh)) := by
  refine PE.imp (pe_slice sl_any ha hl hh) fun σ H Q h => ?_
  obtain ⟨μ, S, ρ, R, E, p⟩ := h
  refine ⟨μ, S, ρ, R, E, Post.step (P := fun μ H r => PostL X.K (cmX X) μ H r Q (atσ W σ)) p (fun _ _ h => h) (fun h => h) fun x S1 μ1 H1 v E1 R1 rv p => ?_⟩
  refine ⟨μ1, S1, ρ, R1, E.mono R E1, PostO.step (P := fun μ H r => PostL X.K (cmX X) μ H r Q (atσ W σ)) (p.ext E1) (fun _ _ h => h) (fun h => h) fun l S2 μ2 H2 E2 R2 p => ?_⟩
  refine ⟨μ2, S2, ρ, R2, (E.mono R E1).mono R1 E2, PostO.step (P := fun μ H r => PostL X.K (cmX X) μ H r Q (atσ W σ)) (p.ext E2) (fun _ _ h => h) (fun h => h) fun u S3 μ3 H3 E3 R3 p => ?_⟩
  refine ⟨μ3, S3, x, R3, (rv.mono R1 E2).mono R2 E3, ?_⟩
  split at p
  · rename_i xs e
    refine .inr (.inr ⟨xs, e, fun H' q vs hq he r hl => ?_⟩)
    subst he
    exact p μ3 _ _ (E3.trans (Ext.fresh hq)) (R3.fresh hq) ⟨E3.none' R3 hq, fun hm => R3.trk hm hq, vs, upd_same, hl, r⟩
  · exact p.elim
/-! ### calls of built-in functions -/
/-- by values -/
def rC (K : PySem.W.Frag) (cm : CM) (f : List PV → Store → Option PV) : List V → Hp → VK → Prop := fun vs H Q => ∃ μ S xs z, RS K cm μ S H ∧ RVs K μ H xs vs ∧ f xs S = some z ∧
  ∀ H' u, Ext μ H μ H' → RS K cm μ S H' → RV K μ H' z u → Q u H'
/-- of a list -/
def rCL (K : PySem.W.Frag) (cm : CM) (f : List PV → Option PV) : List V → Hp → VK → Prop := fun vs H Q => ∃ μ S xs a ws z, RS K cm μ S H ∧ vs = [.ref a] ∧ H a = some (.lst ws) ∧ xs.length ≤ sizeLine ∧ RVs K μ H xs ws ∧ f xs = some z ∧
  ∀ H' u, Ext μ H μ H' → RS K cm μ S H' → RV K μ H' z u → Q u H'
/-- by values, to a new list -/
def rCN (K : PySem.W.Frag) (cm : CM) (f : List PV → Store → Option (List PV)) : List V → Hp → VK → Prop := fun vs H Q => ∃ μ S xs zs, RS K cm μ S H ∧ RVs K μ H xs vs ∧ f xs S = some zs ∧
  ∀ p us, H p = none → RVs K μ H zs us → zs.length ≤ sizeLine → Q (.ref p) (upd H p (.lst us))
def lCallL (f : List PV → Option (List PV)) (l : TL) : TL := fun ρ S => (l ρ S).bind fun l S => match f l.1 with
  | some zs => .ok (zs, none) S
  | none => .bad
theorem vCall_imp {f : List PV → Store → Option PV} {evs : TVs} {σ : L2.St} {H : Hp} {Q : VK} (h : E_ X W (vCall f evs) σ H Q) : A_ X W evs σ H fun vs H1 => rC X.K (cmX X) f vs H1 Q := by
  obtain ⟨μ, S, ρ, R, E, p⟩ := h
  refine ⟨μ, S, ρ, R, E, PostA.step (P := fun μ H r => Post X.K (cmX X) μ H r Q (atσ W σ)) p (fun _ _ h => h) (fun h => h) fun xs S1 μ1 H1 vs E1 R1 rvs p => ?_⟩
  cases hf : f xs S1 with
  | none => rw [hf] at p; exact p.elim
  | some z => rw [hf] at p; exact ⟨μ1, S1, xs, z, R1, rvs, hf, fun H' u E2 R2 r2 => p μ1 H' u (E1.trans E2) R2 r2⟩
theorem vCallL_imp {f : List PV → Option PV} {el : TL} {σ : L2.St} {H : Hp} {Q : VK} (h : E_ X W (vCallL f el) σ H Q) : L_ X W el σ H fun v H1 => rCL X.K (cmX X) f [v] H1 Q := by
  obtain ⟨μ, S, ρ, R, E, p⟩ := h
  refine ⟨μ, S, ρ, R, E, PostL.step (P := fun μ H r => Post X.K (cmX X) μ H r Q (atσ W σ)) p (fun _ _ h => h) (fun h => h) fun l S1 μ1 H1 a E1 R1 rl p => ?_⟩
  obtain ⟨ws, ha, hl, r⟩ := rl.lst R1
  cases hf : f l.1 with
  | none => rw [hf] at p; exact p.elim
  | some z => rw [hf] at p; exact ⟨μ1, S1, l.1, a, ws, z, R1, rfl, ha, hl, r, hf, fun H' u E2 R2 r2 => p μ1 H' u (E1.trans E2) R2 r2⟩
theorem fresh_L {K : PySem.W.Frag} {cm : CM} {μ0 μ : List Addr} {S : Store} {H0 H : Hp} {zs : List PV} {us : List V} {p : Addr} {Q : VK} {W : XK} (E : Ext μ0 H0 μ H) (R : RS K cm μ S H) (h : PostL K cm μ0 H0 (.ok (zs, none) S) Q W)
    (hp : H p = none) (r : RVs K μ H zs us) (hl : zs.length ≤ sizeLine) : Q (.ref p) (upd H p (.lst us)) :=
  h μ _ p (E.trans (Ext.fresh hp)) (R.fresh hp) ⟨E.none' R hp, fun hm => R.trk hm hp, us, upd_same, hl, r.mono R (Ext.fresh hp)⟩
theorem lCallN_imp {f : List PV → Store → Option (List PV)} {evs : TVs} {σ : L2.St} {H : Hp} {Q : VK} (h : L_ X W (lCallN f evs) σ H Q) : A_ X W evs σ H fun vs H1 => rCN X.K (cmX X) f vs H1 Q := by
  obtain ⟨μ, S, ρ, R, E, p⟩ := h
  refine ⟨μ, S, ρ, R, E, PostA.step (P := fun μ H r => PostL X.K (cmX X) μ H r Q (atσ W σ)) p (fun _ _ h => h) (fun h => h) fun xs S1 μ1 H1 vs E1 R1 rvs p => ?_⟩
  cases hf : f xs S1 with
  | none => rw [hf] at p; exact p.elim
  | some zs => rw [hf] at p; exact ⟨μ1, S1, xs, zs, R1, rvs, hf, fun q us hq r2 hl2 => fresh_L E1 R1 p hq r2 hl2⟩
variable {x : Str} {p : Pos} {e : Expr} {es : List Expr} {evs : TVs} {ell : TL} {id T : String}
theorem sv_callB {f : List PV → Store → Option PV} (hc : CallR X (.builtin id) (rC X.K (cmX X) f)) (hg : Gl X x) (hm : X.mg x = none) (hv : bootBuiltins x = some (.builtin id)) (ha : PA X (e :: es) (A_ X W evs)) (hn : x ≠ "__name__" := by decide) (hdb : (x == ("__debug__" : Str)) = false := by decide)
    (he : starEach (e :: es) X.env = (false, eval e X.env) :: starEach es X.env := by rfl) (hpl : (backTo pos (starEach es X.env)).any (·.1) = false := by rfl) : PE X (.Call (.Name x p) (e :: es) [] pos) (E_ X W (vCall f evs)) :=
  PE.imp (pe_callB hc hg hm hv ha hn hdb he hpl) fun _ _ _ h => vCall_imp h
theorem sv_callT {f : List PV → Store → Option PV} (hc : CallR X (.type T) (rC X.K (cmX X) f)) (hg : Gl X x) (hm : X.mg x = none) (hv : bootBuiltins x = some (.type T)) (ha : PA X (e :: es) (A_ X W evs)) (hn : x ≠ "__name__" := by decide) (hdb : (x == ("__debug__" : Str)) = false := by decide)
    (he : starEach (e :: es) X.env = (false, eval e X.env) :: starEach es X.env := by rfl) (hpl : (backTo pos (starEach es X.env)).any (·.1) = false := by rfl) : PE X (.Call (.Name x p) (e :: es) [] pos) (E_ X W (vCall f evs)) :=
  PE.imp (pe_callTy hc hg hm hv ha hn hdb he hpl) fun _ _ _ h => vCall_imp h
theorem sv_callBL {f : List PV → Option PV} (hc : CallR X (.builtin id) (rCL X.K (cmX X) f)) (hg : Gl X x) (hm : X.mg x = none) (hv : bootBuiltins x = some (.builtin id)) (ha : PE X e (L_ X W ell)) (hn : x ≠ "__name__" := by decide) (hdb : (x == ("__debug__" : Str)) = false := by decide)
    (he : starEach [e] X.env = (false, eval e X.env) :: starEach [] X.env := by rfl) : PE X (.Call (.Name x p) [e] [] pos) (E_ X W (vCallL f ell)) :=
  PE.imp (pe_callB hc hg hm hv (pa_cons ha pa_nil he) hn hdb he (by rfl)) fun _ _ _ h => vCallL_imp h
theorem sv_callTL {f : List PV → Option PV} (hc : CallR X (.type T) (rCL X.K (cmX X) f)) (hg : Gl X x) (hm : X.mg x = none) (hv : bootBuiltins x = some (.type T)) (ha : PE X e (L_ X W ell)) (hn : x ≠ "__name__" := by decide) (hdb : (x == ("__debug__" : Str)) = false := by decide)
    (he : starEach [e] X.env = (false, eval e X.env) :: starEach [] X.env := by rfl) : PE X (.Call (.Name x p) [e] [] pos) (E_ X W (vCallL f ell)) :=
  PE.imp (pe_callTy hc hg hm hv (pa_cons ha pa_nil he) hn hdb he (by rfl)) fun _ _ _ h => vCallL_imp h
theorem sl_callBN {f : List PV → Store → Option (List PV)} (hc : CallR X (.builtin id) (rCN X.K (cmX X) f)) (hg : Gl X x) (hm : X.mg x = none) (hv : bootBuiltins x = some (.builtin id)) (ha : PA X (e :: es) (A_ X W evs)) (hn : x ≠ "__name__" := by decide) (hdb : (x == ("__debug__" : Str)) = false := by decide)
    (he : starEach (e :: es) X.env = (false, eval e X.env) :: starEach es X.env := by rfl) (hpl : (backTo pos (starEach es X.env)).any (·.1) = false := by rfl) : PE X (.Call (.Name x p) (e :: es) [] pos) (L_ X W (lCallN f evs)) :=
  PE.imp (pe_callB hc hg hm hv ha hn hdb he hpl) fun _ _ _ h => lCallN_imp h
/-! ### which function -/
theorem cs_len : CallR X (.builtin "len") (rC X.K (cmX X) fLen) := by
  intro pins s σ H vs us Q I rv h
  obtain ⟨μ, S, xs, z, R, ra, hf, q⟩ := h
  unfold fLen at hf
  split at hf
  · obtain ⟨v, rfl, r1⟩ := ra.one
    have ds := deref_seq R r1
    split at hf
    · rename_i ys e
      obtain ⟨a, ws, rfl, sq, l, r⟩ := ds.1 ys e
      cases hf
      exact call_len pins s σ H _ us Q I rv ⟨_, ws.length, rfl, .inl ⟨ws, sq, rfl⟩, by rw [← r.length]; exact q H _ Ext.refl R (.int _)⟩
    · rename_i ys e
      obtain ⟨a, ws, rfl, sq, l, r⟩ := ds.2.1 ys e
      cases hf
      exact call_len pins s σ H _ us Q I rv ⟨_, ws.length, rfl, .inr ⟨ws, sq.sq, rfl⟩, by rw [← r.length]; exact q H _ Ext.refl R (.int _)⟩
    · rename_i t e
      obtain ⟨rfl, ok⟩ := ds.2.2.1 t e
      cases hf
      exact call_len pins s σ H _ us Q I rv ⟨_, t.length, rfl, ⟨ok.1, rfl⟩, q H _ Ext.refl R (.int _)⟩
    · cases hf
  · cases hf
theorem cs_int : CallR X (.type "int") (rC X.K (cmX X) fInt) := by
  intro pins s σ H vs us Q I rv h
  obtain ⟨μ, S, xs, z, R, ra, hf, q⟩ := h
  unfold fInt at hf
  split at hf
  · obtain ⟨v, rfl, r1⟩ := ra.one
    cases r1; cases hf
    exact call_int1 pins s σ H _ us Q I rv (.inl ⟨_, rfl, q H _ Ext.refl R (.int _)⟩)
  · obtain ⟨v, rfl, r1⟩ := ra.one
    cases r1; cases hf
    exact call_int1 pins s σ H _ us Q I rv (.inr ⟨_, rfl, q H _ Ext.refl R (.int _)⟩)
  · cases hf
def fMax (xs : List PV) (_ : Store) : Option PV := match xs with
  | [.int i, .int j] => some (.int (if j > i then j else i))
  | _ => none
def fMin (xs : List PV) (_ : Store) : Option PV := match xs with
  | [.int i, .int j] => some (.int (if j < i then j else i))
  | _ => none
/-- tuple(l), the new one known -/
theorem call_tupD : CallR X (.type "tuple") (fun xs H Q => ∃ p vs, xs = [.ref p] ∧ ((SqL X.K H p vs ∧ ∀ l (ob : Obj), ob.dict = none → H l = none → Q (.ref l) (upd H l (.frz ob (.tup vs)))) ∨ (SqT X.K H p vs ∧ Q (.ref p) H))) := by
  intro pins s σ H xs us Q I r h
  obtain ⟨p, vs, rfl, ⟨sq, q⟩ | ⟨sq, q⟩⟩ := h
  · obtain ⟨w, rfl, rw'⟩ := vals1 r
    cases rw'
    obtain ⟨ts, rr, pl, zz⟩ := I.list sq
    refine call_tuple_list pl.isList (fun g kp => ?_) (by rw [List.size_toArray, ← rr.length]; exact zz)
    have J : Inv X pins σ H { s with heap := g } := I.kept (t' := s.toks) kp
    exact ⟨.ref g.objs.size, _, J.tupD rr zz 0, rfl, (by refine q _ _ ?_ (J.hok.fresh (Nat.le_refl _)); rfl)⟩
  · exact call_tuple_of pins s σ H _ us Q I r ⟨p, vs, rfl, .inr ⟨sq, q⟩⟩
theorem cs_tup : CallR X (.type "tuple") (rC X.K (cmX X) fTup) := by
  intro pins s σ H vs us Q I rv h
  obtain ⟨μ, S, xs, z, R, ra, hf, q⟩ := h
  unfold fTup at hf
  split at hf
  · obtain ⟨v, rfl, r1⟩ := ra.one
    have ds := deref_seq R r1
    split at hf
    · rename_i ys e
      obtain ⟨a, ws, rfl, sq, l, r⟩ := ds.1 ys e
      cases hf
      exact call_tupD pins s σ H _ us Q I rv ⟨a, ws, rfl, .inl ⟨sq, fun p ob hd hp => q _ _ (Ext.fresh hp) (R.fresh hp) (.tup (SqD.of hd) l (r.mono R (Ext.fresh hp)))⟩⟩
    · rename_i ys e
      obtain ⟨a, ws, rfl, sq, l, r⟩ := ds.2.1 ys e
      cases hf
      exact call_tupD pins s σ H _ us Q I rv ⟨a, ws, rfl, .inr ⟨sq.sq, q _ _ Ext.refl R (.tup sq l r)⟩⟩
    · cases hf
  · cases hf
theorem cs_tupL : CallR X (.type "tuple") (rCL X.K (cmX X) fun xs => some (.tup xs)) := by
  intro pins s σ H vs us Q I rv h
  obtain ⟨μ, S, xs, a, ws, z, R, rfl, ha, hl, r, hf, q⟩ := h
  cases hf
  exact call_tupD pins s σ H _ us Q I rv ⟨a, ws, rfl, .inl ⟨SqL.of ha, fun p ob hd hp => q _ _ (Ext.fresh hp) (R.fresh hp) (.tup (SqD.of hd) hl (r.mono R (Ext.fresh hp)))⟩⟩
/-- list(x) of a list or a tuple: a new list -/
def fList (xs : List PV) (S : Store) : Option (List PV) := match xs with
  | [x] => match deref S x with
    | .frl ys => some ys
    | .tup ys => some ys
    | _ => none
  | _ => none
theorem asBl_ok {K : PySem.W.Frag} {μ : List Addr} {H : Hp} : ∀ {xs : List PV} {vs : List V} {bs : List Bool}, RVs K μ H xs vs → asBl xs = some bs → vs = bs.map V.bl
  | [], _, bs, .nil, h => by cases h; rfl
  | x :: xs, _, bs, .cons r t, h => by
    cases r with
    | bl b =>
      simp only [asBl, Option.map_eq_some_iff] at h
      obtain ⟨cs, h1, rfl⟩ := h
      rw [asBl_ok t h1]; rfl
    | _ => simp [asBl] at h
theorem cs_all (hc : X.calm = true) : CallR X (.builtin "all") (rCL X.K (cmX X) fAll) := by
  intro pins s σ H vs us Q I rv h
  obtain ⟨μ, S, xs, a, ws, z, R, rfl, ha, hl, r, hf, q⟩ := h
  simp only [fAll, Option.map_eq_some_iff] at hf
  obtain ⟨bs, h1, rfl⟩ := hf
  have e := asBl_ok r h1
  subst e
  exact cr_all hc pins s σ H _ us Q I rv ⟨a, bs, rfl, SqL.of ha, q H _ Ext.refl R (.bl _)⟩
theorem cs_any (hc : X.calm = true) : CallR X (.builtin "any") (rCL X.K (cmX X) fAny) := by
  intro pins s σ H vs us Q I rv h
  obtain ⟨μ, S, xs, a, ws, z, R, rfl, ha, hl, r, hf, q⟩ := h
  simp only [fAny, Option.map_eq_some_iff] at hf
  obtain ⟨bs, h1, rfl⟩ := hf
  have e := asBl_ok r h1
  subst e
  exact cr_any hc pins s σ H _ us Q I rv ⟨a, bs, rfl, SqL.of ha, q H _ Ext.refl R (.bl _)⟩
/-! ### isinstance of a built-in type -/
def okT : List String := ["str", "int", "bool", "tuple", "list", "dict"]
theorem kit_isI : ∀ a ∈ ["NoneType", "bool", "int", "str", "tuple", "list", "dict"], ∀ b ∈ okT, kitB a b = some (isI a b) := by decide +kernel
theorem tyN_mem {S : Store} {x : PV} {a : String} (h : tyN S x = some a) : a ∈ ["NoneType", "bool", "int", "str", "tuple", "list", "dict"] := by
  unfold tyN at h
  split at h
  all_goals first | (cases h; decide) | (split at h <;> first | (cases h; decide) | cases h)
theorem tyN_ok {K : PySem.W.Frag} {cm : CM} {μ : List Addr} {S : Store} {H : Hp} (R : RS K cm μ S H) {x : PV} {v : V} (r : RV K μ H x v) {a : String} (h : tyN S x = some a) : TyX K H v (.type a) := by
  cases r with
  | non => cases h; exact .base .non
  | bl b => cases h; exact .base (.bl b)
  | int i => cases h; exact .base (.int i)
  | str z _ => cases h; exact .base (.str z)
  | tup s l r =>
    cases h
    rcases s with ⟨o, _, s⟩ | ⟨o, its, n, e, c, _⟩
    · exact .fTuple s
    · exact .kTuple e c
  | frl s l r =>
    cases h
    rcases s with ⟨o, s⟩ | ⟨o, its, n, e, c, _⟩
    · exact .base (.frz s)
    · exact .kList e c
  | @ref i ad hi =>
    simp only [tyN] at h
    split at h
    · rename_i xs e
      obtain ⟨ws, e1, _⟩ := R.ob i ad _ hi e
      cases h
      exact .base (.lst e1)
    · rename_i xs e
      obtain ⟨ws, e1, _⟩ := R.ob i ad _ hi e
      cases h
      exact .base (.dK e1)
    · cases h
theorem sv_isi {T : String} {y : Str} {py : Pos} (ha : PE X a (E_ X W ea)) (hg : Gl X "isinstance") (hm : X.mg "isinstance" = none) (hv : bootBuiltins "isinstance" = some (.builtin "isinstance")) (hg2 : Gl X y) (hm2 : X.mg y = none) (hv2 : bootBuiltins y = some (.type T)) (hT : T ∈ okT := by decide) (hn2 : y ≠ "__name__" := by decide) (hd2 : (y == ("__debug__" : Str)) = false := by decide)
    (he : starEach [a, .Name y py] X.env = (false, eval a X.env) :: starEach [.Name y py] X.env := by rfl) : PE X (.Call (.Name "isinstance" p) [a, .Name y py] [] pos) (E_ X W (vIsi T ea)) := by
  refine PE.imp (pe_callB call_isi hg hm hv (pa_cons ha (pa_cons (pe_bltn (v := .ty T) hg2 hm2 hv2 rfl hn2 hd2) pa_nil) he) (by decide) (by decide) he) fun σ H Q h => ?_
  obtain ⟨μ, S, ρ, R, E, q⟩ := h
  refine ⟨μ, S, ρ, R, E, Post.step (P := fun μ H r => Post X.K (cmX X) μ H r Q (atσ W σ)) q (fun _ _ h => h) (fun h => h) fun x S1 μ1 H1 v E1 R1 rv q => ?_⟩
  cases ht : tyN S1 x with
  | none => rw [ht] at q; exact q.elim
  | some t =>
    rw [ht] at q
    exact ⟨v, .ty T, .type t, .type T, isI t T, rfl, .ty T, tyN_ok R1 rv ht, kit_ty (kit_isI t (tyN_mem ht) T hT), q μ1 H1 _ E1 R1 (.bl _)⟩
end
end
/-! Fw5: statements, loops, comprehensions. -/
section
/-! ### statements -/
def sPass : TSt := fun ρ S => .nx ρ S
def sBrk : TSt := fun ρ S => .brk ρ S
def sCnt : TSt := fun ρ S => .cnt ρ S
def sRetN : TSt := fun _ S => .ret .non S
/-! ### targets -/
/-- storing v leads from slots to slots; only those of vs change -/
def G_ (X : Cx) (vs : List Nat) (tg : Tgt) : TG := fun v σ H Q => ∃ μ S ρ x ρ', RS X.K (cmX X) μ S H ∧ RE X.K μ H ρ σ ∧ RV X.K μ H x v ∧ tg x ρ = some ρ' ∧
  ∀ σ', RE X.K μ H ρ' σ' → (∀ i, i ∉ vs → σ'[i]? = σ[i]?) → σ'.length = σ.length → Q σ' H
def Gs_ (X : Cx) (vs : List Nat) (n : Nat) (tg : List PV → Env' → Option Env') : TGs := fun ws σ H Q => ∃ μ S ρ xs ρ', RS X.K (cmX X) μ S H ∧ RE X.K μ H ρ σ ∧ RVs X.K μ H xs ws ∧ ws.length = n ∧ tg xs ρ = some ρ' ∧
  ∀ σ', RE X.K μ H ρ' σ' → (∀ i, i ∉ vs → σ'[i]? = σ[i]?) → σ'.length = σ.length → Q σ' H
theorem PG_imp {X : Cx} {e : Expr} {t t' : TG} (h : PG X e t) (w : ∀ v σ H Q, t' v σ H Q → t v σ H Q) : PG X e t' := ⟨fun pins s σ H v u Q I r q => h.run pins s σ H v u Q I r (w v σ H Q q)⟩
theorem PGs_imp {X : Cx} {e : List Expr} {t t' : TGs} (h : PGs X e t) (w : ∀ v σ H Q, t' v σ H Q → t v σ H Q) : PGs X e t' := ⟨fun pins s σ H v u Q I r q => h.run pins s σ H v u Q I r (w v σ H Q q)⟩
section
variable {X : Cx} {W : WX} {e : Expr} {st : Stmt} {rest : List Stmt} {ev : TV} {a b : TSt} {pos pos' : Pos}
theorem sg_name {i : Nat} {x : Str} (hN : X.N.Nodup) (hi : X.N[i]? = some x) (hx : Loc X.env.scope x) (hf : X.fn x = true ∨ X.env.scope.names.lookup x = some .local := by first | exact .inl rfl | exact .inr rfl | assumption) : PG X (.Name x pos) (G_ X [i] (tgN i)) := by
  refine PG_imp (pg_name hN hi hx hf) fun v σ H Q h => ?_
  obtain ⟨μ, S, ρ, x, ρ', R, E, r, e, q⟩ := h
  cases e
  exact q _ (E.set r i) (fun j hj => by rw [List.getElem?_set_ne]; rintro rfl; exact hj (by simp)) (by simp)
theorem sg_nil : PGs X [] (Gs_ X [] 0 tgNil) := by
  refine PGs_imp pgs_nil fun v σ H Q h => ?_
  obtain ⟨μ, S, ρ, xs, ρ', R, E, r, hn, e, q⟩ := h
  have := List.length_eq_zero_iff.mp hn
  subst this
  cases r; cases e
  exact ⟨rfl, q σ E (fun _ _ => rfl) rfl⟩
theorem sg_cons {e : Expr} {es : List Expr} {vs ws : List Nat} {n : Nat} {t : Tgt} {r : List PV → Env' → Option Env'} (h1 : PG X e (G_ X vs t)) (h2 : PGs X es (Gs_ X ws n r))
    (hs : (assignEach (e :: es) X.env).map (·.2) = assign e X.env :: (assignEach es X.env).map (·.2) := by rfl) : PGs X (e :: es) (Gs_ X (vs ++ ws) (n + 1) (tgCons t r)) := by
  refine PGs_imp (pgs_cons h1 h2 hs) fun us σ H Q h => ?_
  obtain ⟨μ, S, ρ, xs, ρ', R, E, rv, hn, he, q⟩ := h
  cases rv with
  | nil => cases hn
  | @cons x v xs us h t' =>
    simp only [tgCons] at he
    cases h1 : t x ρ with
    | none => rw [h1] at he; cases he
    | some ρ1 =>
      rw [h1] at he
      refine ⟨v, us, rfl, μ, S, ρ, x, ρ1, R, E, h, h1, fun σ1 E1 k1 l1 => ?_⟩
      refine ⟨μ, S, ρ1, xs, ρ', R, E1, t', by simpa using hn, he, fun σ2 E2 k2 l2 => q σ2 E2 (fun i hi => ?_) (l2.trans l1)⟩
      rw [k2 i fun z => hi (List.mem_append_right _ z), k1 i fun z => hi (List.mem_append_left _ z)]
theorem sg_tup {es : List Expr} {k : Nat} {vs : List Nat} {n : Nat} {r : List PV → Env' → Option Env'} (hc : X.calm = true) (h : PGs X es (Gs_ X vs n r))
    (hn : (assignEach es X.env).length = n := by rfl) (hst : (assignEach es X.env).findIdx? (·.1) = none := by rfl) (hlen : ∀ xs ρ ρ', r xs ρ = some ρ' → xs.length = n) : PG X (.Tuple es k pos) (G_ X vs (tgT r)) := by
  refine PG_imp (pg_tup hc h hn hst) fun v σ H Q h => ?_
  obtain ⟨μ, S, ρ, x, ρ', R, E, rv, he, q⟩ := h
  cases rv with
  | @tup a xs ws s l r' =>
    have hl := hlen _ _ _ he
    have hw : ws.length = n := by rw [← r'.length]; exact hl
    exact ⟨a, ws, rfl, s.sq, hw, μ, S, ρ, xs, ρ', R, E, r', hw, he, q⟩
  | _ => cases he
/-! ### plain statements -/
theorem ss_nil : PSs X [] (S_ X W sNil) := PSs.imp pss_nil fun D σ H ⟨μ, S, ρ, R, E, p⟩ => p μ H σ Ext.refl R E
theorem ss_seq (h1 : PS X st (S_ X W a)) (h2 : PSs X rest (S_ X W b)) : PSs X (st :: rest) (S_ X W (sSeq a b)) := by
  refine PSs.imp (pss_cons h1 h2) fun D σ H h => ?_
  obtain ⟨μ, S, ρ, R, E, p⟩ := h
  refine ⟨μ, S, ρ, R, E, ?_⟩
  unfold sSeq SR.seq at p
  cases he : a ρ S with
  | nx ρ' S' => rw [he] at p; exact fun μ' H' σ' E1 R1 r1 => ⟨μ', S', ρ', R1, r1, p.ext E1⟩
  | ret v S' => rw [he] at p; exact p
  | brk ρ' S' => rw [he] at p; exact p
  | cnt ρ' S' => rw [he] at p; exact p
  | exc e ρ' S' => rw [he] at p; exact p
  | bad => rw [he] at p; exact p
/-- a value, then what follows -/
theorem sr_step {r : Res PV} {f : PV → Store → SR} {μ : List Addr} {H : Hp} {ρ : Env'} {σ : L2.St} {D : Ends} {Q : VK} (E : RE X.K μ H ρ σ) {S0 : Store} (R0 : RS X.K (cmX X) μ S0 H) (h : PostS X.K (cmX X) μ H (r.sr ρ f) D W)
    (hok : ∀ x S μ' H' v, Ext μ H μ' H' → RS X.K (cmX X) μ' S H' → RV X.K μ' H' x v → PostS X.K (cmX X) μ H (f x S) D W → Q v H') : Post X.K (cmX X) μ H r Q (atσ W σ) := by
  cases r with
  | ok x S => exact fun μ' H' v e r q => hok x S μ' H' v e r q h
  | exc e S => exact fun μ' H' c d e r q => h μ' H' σ c d e r (E.mono R0 e) q
  | bad => exact h
theorem sr_stepB {r : Res Bool} {f : Bool → Store → SR} {μ : List Addr} {H : Hp} {ρ : Env'} {σ : L2.St} {D : Ends} {Q : Bool → Hp → Prop} (E : RE X.K μ H ρ σ) {S0 : Store} (R0 : RS X.K (cmX X) μ S0 H) (h : PostS X.K (cmX X) μ H (r.sr ρ f) D W)
    (hok : ∀ x S μ' H', Ext μ H μ' H' → RS X.K (cmX X) μ' S H' → PostS X.K (cmX X) μ H (f x S) D W → Q x H') : PostB X.K (cmX X) μ H r Q (atσ W σ) := by
  cases r with
  | ok x S => exact fun μ' H' e r => hok x S μ' H' e r h
  | exc e S => exact fun μ' H' c d e r q => h μ' H' σ c d e r (E.mono R0 e) q
  | bad => exact h
theorem ss_expr (he : PE X e (E_ X W ev)) (hs : swapsWith e none pos.line X.env = pure false := by rfl) : PS X (.Expr e pos) (S_ X W (sExpr ev)) := by
  refine PS.imp (ps_expr he hs) fun D σ H h => ?_
  obtain ⟨μ, S, ρ, R, E, p⟩ := h
  exact ⟨μ, S, ρ, R, E, sr_step E R p fun x S1 μ1 H1 v E1 R1 rv p => p μ1 H1 σ E1 R1 (E.mono R E1)⟩
theorem ss_set {i : Nat} {x : Str} {pos' : Pos} (hN : X.N.Nodup) (hi : X.N[i]? = some x) (hx : Loc X.env.scope x) (he : PE X e (E_ X W ev)) (hs : swapsWith e (some (.Name x pos')) pos.line X.env = pure false := by rfl) (hf : X.fn x = true ∨ X.env.scope.names.lookup x = some .local := by first | exact .inl rfl | exact .inr rfl | assumption) :
    PS X (.Assign [.Name x pos'] e pos) (S_ X W (sSet i ev)) := by
  refine PS.imp (ps_set hN hi hx he hs hf) fun D σ H h => ?_
  obtain ⟨μ, S, ρ, R, E, p⟩ := h
  exact ⟨μ, S, ρ, R, E, sr_step E R p fun x S1 μ1 H1 v E1 R1 rv p => p μ1 H1 _ E1 R1 ((E.mono R E1).set rv i)⟩
theorem ss_ret (he : PE X e (E_ X W ev)) : PS X (.Return (some e) pos) (S_ X W (sRet ev)) := by
  refine PS.imp (ps_ret he) fun D σ H h => ?_
  obtain ⟨μ, S, ρ, R, E, p⟩ := h
  exact ⟨μ, S, ρ, R, E, sr_step E R p fun x S1 μ1 H1 v E1 R1 rv p => p μ1 H1 _ E1 R1 rv⟩
theorem ss_if {c : Expr} {sa sb : List Stmt} {tc : TB} (hc : PT X c (T_ X W tc)) (ha : PSs X sa (S_ X W a)) (hb : PSs X sb (S_ X W b)) : PS X (.If c sa sb pos) (S_ X W (sIf tc a b)) := by
  refine PS.imp (ps_if hc ha hb) fun D σ H h => ?_
  obtain ⟨μ, S, ρ, R, E, p⟩ := h
  refine ⟨μ, S, ρ, R, E, sr_stepB E R p fun x S1 μ1 H1 E1 R1 p => ?_⟩
  cases x with
  | true => rw [if_pos rfl] at p ⊢; exact ⟨μ1, S1, ρ, R1, E.mono R E1, p.ext E1⟩
  | false => rw [if_neg (by decide)] at p ⊢; exact ⟨μ1, S1, ρ, R1, E.mono R E1, p.ext E1⟩
/-- a, b = e: a tuple taken apart -/
def sUnp (tg : Tgt) (e : TV) : TSt := fun ρ S => (e ρ S).sr ρ fun x S => match tg x ρ with
  | some ρ' => .nx ρ' S
  | none => .bad
/-! ### o[i] = v -/
def rSetS (K : PySem.W.Frag) (cm : CM) : V → V → V → Hp → (Hp → Prop) → Prop := fun o i v H Q => ∃ μ S x k y S', RS K cm μ S H ∧ RV K μ H x o ∧ RV K μ H k i ∧ RV K μ H y v ∧ storeAt x k y S = some S' ∧
  ∀ H', Ext μ H μ H' → RS K cm μ S' H' → Q H'
theorem length_putP (kvs : List (Key × PV)) (k : Key) (v : PV) : (putP kvs k v).length ≤ kvs.length + 1 := by
  unfold putP; split <;> simp
theorem set_any (hu : X.A.units + 1 < cLine) : PSet X (rSetS X.K (cmX X)) := by
  intro pins s σ H o i v ov iv u Q I ro ri rv h
  obtain ⟨μ, S, x, k, y, S', R, r1, r2, r3, he, q⟩ := h
  cases r1 with
  | @ref j a hj =>
    simp only [storeAt] at he
    cases e : S[j]? with
    | none => rw [e] at he; simp at he
    | some ob =>
      rw [e] at he
      cases ob with
      | lst xs =>
        cases r2 with
        | int z =>
          obtain ⟨vs, e1, l, r⟩ := R.ob j a _ hj e
          simp only [Option.map_eq_some_iff] at he
          obtain ⟨n, hn, rfl⟩ := he
          refine set_list pins s σ H _ _ v ov iv u Q I ro ri rv ⟨a, vs, z, n, rfl, rfl, e1, by rw [← r.length]; exact hn, q _ (Ext.put hj (.lst e1)) (R.put hj (.lst e1) ⟨_, upd_same, by simpa using l, ?_⟩)⟩
          exact RVs.mono R (Ext.put hj (.lst e1)) (RVs.set r3 n r)
        | _ => simp at he
      | dic kvs =>
        obtain ⟨vs, e1, l, r⟩ := R.ob j a _ hj e
        have key : ∀ (k : Key), kvs.length < sizeLine → S' = S.set j (.dic (putP kvs k y)) → RelV (kV k) iv → wpAny (model X.prog X.w) X.A (setItem ov iv u) (fun _ s' => ∃ H', Inv X pins σ H' s' ∧ Q H') X.xe s := fun k hl hS rk => by
          subst hS
          cases ro
          refine d_setItem hu I (DPut.k e1 (by rw [← r.length]; exact hl)) rk rv fun s' I' => ⟨_, I', q _ (Ext.put hj (.dK e1)) (R.put hj (.dK e1) ⟨_, upd_same, ?_, ?_⟩)⟩
          · have := length_putP kvs k y; omega
          · exact RKs.mono R (Ext.put hj (.dK e1)) (r.putP k r3)
        cases r2 with
        | int z =>
          simp only at he
          split at he
          · rename_i hl; cases he; exact key (.inl z) hl rfl ri
          · cases he
        | str z _ =>
          simp only at he
          split at he
          · rename_i hl; cases he; exact key (.inr z) hl rfl ri
          · cases he
        | _ => simp at he
      | ins C fs => cases r2 <;> simp at he
      | exn C fs => cases r2 <;> simp at he
      | dicW _ => cases r2 <;> simp at he
      | dicN _ => cases r2 <;> simp at he
      | dicM _ => cases r2 <;> simp at he
  | _ => simp [storeAt] at he
theorem ss_sub {o i e : Expr} {vo vi ve : TV} {tpos : Pos} (hu : X.A.units + 1 < cLine) (he : PE X e (E_ X W ve)) (ho : PE X o (E_ X W vo)) (hi : PE X i (E_ X W vi))
    (ha : ∀ v, assign (.Subscript o i tpos) X.env v = (do
      let ov ← holding [v] (eval o X.env)
      let iv ← holding [v, ov] (eval i X.env)
      standAt tpos
      holding [v, ov, iv] (setItem ov iv v)
      release [v, ov, iv] []) := by intro _; rfl) (hs : swapsWithSole [.Subscript o i tpos] e pos.line X.env = pure false := by rfl) (hw : swappedStores [.Subscript o i tpos] e X.env = pure none := by rfl)
    (h1 : (assignEach [.Subscript o i tpos] X.env).map (·.2) = [assign (.Subscript o i tpos) X.env] := by rfl) : PS X (.Assign [.Subscript o i tpos] e pos) (S_ X W (sSub vo vi ve)) := by
  refine PS.imp (ps_asg he (pg_sub ho hi (set_any hu) ha) hs hw h1) fun D σ H h => ?_
  obtain ⟨μ, S, ρ, R, E, p⟩ := h
  refine ⟨μ, S, ρ, R, E, sr_step E R p fun y S1 μ1 H1 v E1 R1 rv p => ?_⟩
  refine ⟨μ1, S1, ρ, R1, E.mono R E1, sr_step (D := D) (E.mono R E1) R1 (p.ext E1) fun x S2 μ2 H2 w E2 R2 rw p => ?_⟩
  refine ⟨μ2, S2, ρ, R2, (E.mono R E1).mono R1 E2, sr_step (D := D) ((E.mono R E1).mono R1 E2) R2 (p.ext E2) fun k S3 μ3 H3 w3 E3 R3 r3 p => ?_⟩
  cases hst : storeAt x k y S3 with
  | none => rw [hst] at p; exact p.elim
  | some S' =>
    rw [hst] at p
    exact ⟨μ3, S3, x, k, y, S', R3, rw.mono R2 E3, r3, (rv.mono R1 E2).mono R2 E3, hst, fun H' E4 R4 => p μ3 H' σ (E3.trans E4) R4 ((((E.mono R E1).mono R1 E2).mono R2 E3).mono R3 E4)⟩
/-! ### name op= e -/
def oAddI (x y : PV) (_ : Store) : Option PV := match x, y with
  | .int a, .int b => some (.int (a + b))
  | _, _ => none
end
end
/-! Fw6: what is walked; for, while, comprehensions. -/
section
/-! ### what is walked -/
section
variable {X : Cx} {W : WX} {e : Expr} {ev : TV} {el : TL} {it : TIt} {pos : Pos} {tg : Expr}
theorem it_tup {K : PySem.W.Frag} {cm : CM} {μ : List Addr} {S : Store} {H : Hp} {a : Addr} {xs : List PV} {vs : List V} (R : RS K cm μ S H) (s : SqD K H a vs) (l : xs.length ≤ sizeLine) (r : RVs K μ H xs vs) : ItOk K cm (Itt K a) μ H (xs, none) := by
  refine ⟨l, fun i μ' S' H' E R' _ => ⟨fun hi => ⟨vs, (R.tupS E.up s).sq, by rw [← r.length]; exact hi⟩, fun x hx => ?_⟩⟩
  obtain ⟨v, hv, rv⟩ := (r.mono R E).get hx
  refine ⟨⟨vs, v, (R.tupS E.up s).sq, hv⟩, fun w H'' hy => ?_⟩
  obtain ⟨rfl, f⟩ := hy
  have := f _ ((R.tupS E.up s).sq)
  rw [hv] at this; cases this
  exact ⟨Ext.refl, R', rv⟩
theorem it_frl {K : PySem.W.Frag} {cm : CM} {μ : List Addr} {S : Store} {H : Hp} {a : Addr} {xs : List PV} {vs : List V} (R : RS K cm μ S H) (s : FL K H a vs) (l : xs.length ≤ sizeLine) (r : RVs K μ H xs vs) : ItOk K cm (Itl K a) μ H (xs, none) := by
  refine ⟨l, fun i μ' S' H' E R' _ => ⟨fun hi => ⟨vs, (R.flS E.up s).sq, by rw [← r.length]; exact hi⟩, fun x hx => ?_⟩⟩
  obtain ⟨v, hv, rv⟩ := (r.mono R E).get hx
  refine ⟨⟨vs, v, (R.flS E.up s).sq, hv⟩, fun w H'' hy => ?_⟩
  obtain ⟨rfl, f⟩ := hy
  have := f _ (R.flS E.up s).sq
  rw [hv] at this; cases this
  exact ⟨Ext.refl, R', rv⟩
theorem it_lst {K : PySem.W.Frag} {cm : CM} {μ : List Addr} {S : Store} {H0 H : Hp} {a : Addr} {l : LL} (R : RS K cm μ S H) (rl : RL K H0 μ S H l a) : ItOk K cm (Itl K a) μ H (toI l) := by
  refine ⟨let ⟨_, _, h, _⟩ := rl.lst R; h , fun i μ' S' H' E R' lk => ?_⟩
  have key : ∃ vs, H' a = some (.lst vs) ∧ RVs K μ' H' l.1 vs := by
    unfold RL at rl
    unfold lkI toI at lk
    cases hl : l.2 with
    | none =>
      rw [hl] at rl
      obtain ⟨_, hm, vs, h1, _, r⟩ := rl
      exact ⟨vs, E.kp _ _ h1 hm, r.mono R E⟩
    | some j =>
      rw [hl] at rl lk
      have lk : S'[j]? = some (.lst l.1) := lk
      obtain ⟨vs, h1, _, r⟩ := R'.ob j a _ (E.pre _ _ rl.1) lk
      exact ⟨vs, h1, r⟩
  obtain ⟨vs, hs, r⟩ := key
  refine ⟨fun hi => ⟨vs, SqL.of hs, by rw [← r.length]; exact hi⟩, fun x hx => ?_⟩
  obtain ⟨v, hv, rv⟩ := r.get hx
  refine ⟨⟨vs, v, SqL.of hs, hv⟩, fun w H'' hy => ?_⟩
  obtain ⟨rfl, f⟩ := hy
  have := f _ (SqL.of hs)
  rw [hv] at this; cases this
  exact ⟨Ext.refl, R', rv⟩
theorem it_str {K : PySem.W.Frag} {cm : CM} {μ : List Addr} {S : Store} {H : Hp} {z : Str} (R : RS K cm μ S H) (ok : SOk z) : ItOk K cm (Its z) μ H (z.cps.toList.map fun c => .str ⟨#[c]⟩, none) := by
  refine ⟨by have h : z.cps.size ≤ sizeLine := ok.1; simpa using h, fun i μ' S' H' E R' _ => ⟨fun hi => by show z.cps.size ≤ i; simpa using hi, fun x hx => ?_⟩⟩
  rw [List.getElem?_map] at hx
  simp only [Option.map_eq_some_iff] at hx
  obtain ⟨c, hc, rfl⟩ := hx
  have hi : i < z.cps.size := by
    have := (List.getElem?_eq_some_iff.mp hc).1
    simpa using this
  refine ⟨hi, fun w H'' hy => ?_⟩
  obtain ⟨rfl, d, hd, rfl⟩ := hy
  rw [Array.getElem?_toList] at hc
  rw [hc] at hd; cases hd
  exact ⟨Ext.refl, R', .str _ (strOk_one ok.2 (by
    have : c ∈ z.cps := Array.mem_of_getElem? hc
    simpa using this))⟩
theorem si_val (he : PE X e (E_ X W ev)) : PI X tg e (I_ X W (iV ev)) := by
  refine ⟨fun pins s σ H R' I h => ?_⟩
  obtain ⟨μ, S, ρ, R, E, p⟩ := h
  unfold iV at p
  cases hr : ev ρ S with
  | bad => rw [hr] at p; exact p.elim
  | exc x S1 =>
    refine (pi_list he).run pins s σ H R' I ⟨μ, S, ρ, R, E, ?_⟩
    rw [hr] at p ⊢
    exact p
  | ok x S1 =>
    rw [hr] at p
    simp only [bind_ok] at p
    cases x with
    | tup xs =>
      refine (pi_tup he).run pins s σ H R' I ⟨μ, S, ρ, R, E, ?_⟩
      rw [hr]
      intro μ1 H1 v E1 R1 rv
      cases rv with
      | tup s l r => exact ⟨_, rfl, ⟨_, s.sq⟩, p μ1 H1 _ E1 R1 (it_tup R1 s l r)⟩
    | frl xs =>
      refine (pi_list he).run pins s σ H R' I ⟨μ, S, ρ, R, E, ?_⟩
      rw [hr]
      intro μ1 H1 v E1 R1 rv
      cases rv with
      | frl s l r => exact ⟨_, rfl, ⟨_, s.sq⟩, p μ1 H1 _ E1 R1 (it_frl R1 s l r)⟩
    | str z =>
      refine (pi_str he).run pins s σ H R' I ⟨μ, S, ρ, R, E, ?_⟩
      rw [hr]
      intro μ1 H1 v E1 R1 rv
      cases rv with
      | str _ ok => exact ⟨z, rfl, p μ1 H1 _ E1 R1 (it_str R1 ok)⟩
    | ref i =>
      refine (pi_list he).run pins s σ H R' I ⟨μ, S, ρ, R, E, ?_⟩
      rw [hr]
      intro μ1 H1 v E1 R1 rv
      simp only [itemsOf] at p
      cases rv with
      | @ref _ a hi =>
        cases hS : S1[i]? with
        | none => rw [hS] at p; exact p.elim
        | some o =>
          rw [hS] at p
          cases o with
          | lst xs =>
            obtain ⟨vs, h1, _, r⟩ := R1.ob i a _ hi hS
            exact ⟨a, rfl, ⟨vs, SqL.of h1⟩, p μ1 H1 _ E1 R1 (it_lst (H0 := H) R1 (l := (xs, some i)) ⟨hi, hS⟩)⟩
          | dic _ => exact p.elim
          | ins _ _ => exact p.elim
          | exn _ _ => exact p.elim
          | dicW _ => exact p.elim
          | dicN _ => exact p.elim
          | dicM _ => exact p.elim
    | non => exact p.elim
    | bl _ => exact p.elim
    | int _ => exact p.elim
theorem si_list (he : PE X e (L_ X W el)) : PI X tg e (I_ X W (iL el)) := by
  refine PI.imp (pi_list he) fun σ H R' h => ?_
  obtain ⟨μ, S, ρ, R, E, p⟩ := h
  refine ⟨μ, S, ρ, R, E, ?_⟩
  unfold iL at p
  cases hr : el ρ S with
  | bad => rw [hr] at p; exact p
  | exc x S1 => rw [hr] at p; exact p
  | ok l S1 =>
    rw [hr] at p
    intro μ1 H1 a E1 R1 rl
    obtain ⟨vs, h1, _, r⟩ := rl.lst R1
    exact ⟨a, rfl, ⟨vs, SqL.of h1⟩, p μ1 H1 _ E1 R1 (it_lst R1 rl)⟩
/-! ### range -/
theorem it_range {K : PySem.W.Frag} {cm : CM} {μ : List Addr} {H : Hp} {lo : Int} {n : Nat} (hn : n ≤ sizeLine) : ItOk K cm (Itr lo n) μ H (rangeL lo n, none) := by
  refine ⟨by simpa [rangeL] using hn, fun i μ' S' H' E R' _ => ⟨fun hi => by show n ≤ i; simpa [rangeL] using hi, fun x hx => ?_⟩⟩
  simp only [rangeL, List.getElem?_map, Option.map_eq_some_iff] at hx
  obtain ⟨j, hj, rfl⟩ := hx
  have hi : i < n := by
    have := (List.getElem?_eq_some_iff.mp hj).1
    simpa using this
  rw [List.getElem?_range hi] at hj
  cases hj
  exact ⟨hi, fun w H'' hy => by obtain ⟨rfl, rfl⟩ := hy; exact ⟨Ext.refl, R', .int _⟩⟩
variable {a b : Expr} {evs : TVs} {p : Pos}
theorem si_range1 (hg : Gl X "range") (hm : X.mg "range" = none) (ha : PA X [a] (A_ X W evs)) (hn : ∀ ρ S xs S', evs ρ S = .ok xs S' → xs.length = 1) (hs : starEach [a] X.env = [(false, eval a X.env)] := by rfl) : PI X tg (.Call (.Name "range" p) [a] [] pos) (I_ X W (iRng evs)) := by
  refine PI.imp (pi_range1 hg hm ha hs) fun σ H R' h => ?_
  obtain ⟨μ, S, ρ, R, E, q⟩ := h
  refine ⟨μ, S, ρ, R, E, ?_⟩
  unfold iRng at q
  cases hr : evs ρ S with
  | bad => rw [hr] at q; exact q
  | exc x S1 => rw [hr] at q; exact q
  | ok xs S1 =>
    rw [hr] at q
    intro μ1 H1 vs E1 R1 rv
    have hl := hn _ _ _ _ hr
    simp only [bind_ok] at q
    split at q
    · rename_i j
      obtain ⟨v, rfl, r1⟩ := rv.one
      cases r1
      split at q
      · rename_i hb
        exact ⟨j, rfl, hb.1, by omega, q μ1 H1 _ E1 R1 (it_range (by rw [sizeLine_eq]; omega))⟩
      · exact q.elim
    · cases hl
    · exact q.elim
theorem vs1_len {a : TV} {ρ : Env'} {S S' : Store} {xs : List PV} (h : vsCons a vsNil ρ S = .ok xs S') : xs.length = 1 := by
  unfold vsCons vsNil at h
  cases h1 : a ρ S with
  | ok x S1 => rw [h1] at h; simp at h; rw [← h.1]; rfl
  | exc _ _ => rw [h1] at h; cases h
  | bad => rw [h1] at h; cases h
/-! ### for -/
variable {vs : List Nat} {t : Tgt} {body : List Stmt} {sb : TSt}
theorem for_core {J : It} {μ0 : List Addr} {H0 : Hp} {l : LI} (ok : ItOk X.K (cmX X) J μ0 H0 l) {D : Ends} {σ : L2.St} {ρ : Env'} {S : Store} (R : RS X.K (cmX X) μ0 S H0) (E : RE X.K μ0 H0 ρ σ) (h : PostS X.K (cmX X) μ0 H0 (forL t sb l l.1 ρ S) D W) :
    ∃ Wv : Nat → Nat → L2.St → Hp → Prop, (∃ m, Wv 0 m σ H0) ∧ ∀ i m σ H, Wv i m σ H →
      (J.stop i H ∧ D.nx σ H) ∨ (J.go i H ∧ ∃ N : L2.St → Hp → Prop, (∀ σ' H', N σ' H' → ∃ m', m' < m ∧ Wv (i + 1) m' σ' H') ∧ ∀ x H', J.yld i H x H' → G_ X vs t x σ H' fun σ2 H2 => S_ X W sb { D with nx := N, ct := N, bk := D.nx } σ2 H2) := by
  refine ⟨fun i m σ H => i + m = l.1.length ∧ ∃ μ S ρ, Ext μ0 H0 μ H ∧ RS X.K (cmX X) μ S H ∧ RE X.K μ H ρ σ ∧ PostS X.K (cmX X) μ H (forL t sb l (l.1.drop i) ρ S) D W, ⟨l.1.length, by omega, μ0, S, ρ, Ext.refl, R, E, by simpa using h⟩, fun i m σ H hW => ?_⟩
  obtain ⟨him, μ, S, ρ, Ex, R, E, p⟩ := hW
  cases hd : l.1.drop i with
  | nil =>
    rw [hd] at p
    unfold forL at p
    split at p
    · rename_i lk
      refine .inl ⟨((ok.step i μ S H Ex R lk).1 ?_), p μ H σ Ext.refl R E⟩
      have := List.drop_eq_nil_iff.mp hd
      exact this
    · exact p.elim
  | cons x r =>
    have hx : l.1[i]? = some x := by
      have := List.getElem?_drop (xs := l.1) (i := i) (j := 0)
      rw [hd] at this
      simpa using this.symm
    have hr : r = l.1.drop (i + 1) := by
      rw [List.drop_add_one_eq_tail_drop, hd]; rfl
    rw [hd] at p
    unfold forL at p
    split at p
    · rename_i lk
      obtain ⟨hgo, hy⟩ := (ok.step i μ S H Ex R lk).2 x hx
      refine .inr ⟨hgo, fun σ' H' => i + 1 + (m - 1) = l.1.length ∧ ∃ μ' S' ρ', Ext μ0 H0 μ' H' ∧ RS X.K (cmX X) μ' S' H' ∧ RE X.K μ' H' ρ' σ' ∧ PostS X.K (cmX X) μ' H' (forL t sb l (l.1.drop (i + 1)) ρ' S') D W, fun σ' H' hN => ⟨m - 1, ?_, hN⟩, fun v H' hyl => ?_⟩
      · have := (List.getElem?_eq_some_iff.mp hx).1
        omega
      · obtain ⟨E1, R1, rv⟩ := hy v H' hyl
        cases ht : t x ρ with
        | none => rw [ht] at p; exact p.elim
        | some ρ1 =>
          rw [ht] at p
          dsimp only at p
          refine ⟨μ, S, ρ, x, ρ1, R1, E.mono R E1, rv, ht, fun σ1 Eσ _ _ => ?_⟩
          refine ⟨μ, S, ρ1, R1, Eσ, ?_⟩
          have p := PostS.ext E1 p
          have hlen : i < l.1.length := (List.getElem?_eq_some_iff.mp hx).1
          cases hb : sb ρ1 S with
          | nx ρ' S' => rw [hb] at p; exact fun μ2 H2 σ2 E2 R2 r2 => ⟨by omega, μ2, S', ρ', (Ex.trans E1).trans E2, R2, r2, by rw [← hr]; exact PostS.ext E2 p⟩
          | cnt ρ' S' => rw [hb] at p; exact fun μ2 H2 σ2 E2 R2 r2 => ⟨by omega, μ2, S', ρ', (Ex.trans E1).trans E2, R2, r2, by rw [← hr]; exact PostS.ext E2 p⟩
          | brk ρ' S' => rw [hb] at p; exact p
          | ret v S' => rw [hb] at p; exact p
          | exc e ρ' S' => rw [hb] at p; exact p
          | bad => rw [hb] at p; exact p
    · exact p.elim
theorem ss_for {iter : Expr} (hp : PassesOwn (model X.prog X.w) X.A X.env X.xe) (hc : X.calm = true) (hi : PI X tg iter (I_ X W it)) (hg : PG X tg (G_ X vs t)) (hb : PSs X body (S_ X W sb))
    (hs : ∀ x, foldedSetIterable iter X.env x = pure x := by intro _; rfl) : PS X (.For tg iter body [] pos) (S_ X W (sFor t it sb)) := by
  refine PS.imp (ps_for hp hc hi hg hb hs) fun D σ H h => ?_
  obtain ⟨μ, S, ρ, R, E, p⟩ := h
  refine ⟨μ, S, ρ, R, E, ?_⟩
  unfold sFor at p
  cases hr : it ρ S with
  | bad => rw [hr] at p; exact p
  | exc x S1 => rw [hr] at p; exact fun μ' H' c d e r q => p μ' H' σ c d e r (E.mono R e) q
  | ok l S1 =>
    rw [hr] at p
    intro μ1 H1 J E1 R1 ok
    exact for_core ok R1 (E.mono R E1) (p.ext E1)
/-! ### while -/
theorem whileL_mono (c : TB) (b : TSt) : ∀ (k : Nat) (ρ : Env') (S : Store), whileL c b k ρ S ≠ .bad → whileL c b (k + 1) ρ S = whileL c b k ρ S
  | 0, ρ, S, h => absurd rfl h
  | k + 1, ρ, S, h => by
    rw [whileL] at h
    rw [whileL, whileL]
    cases hc : c ρ S with
    | bad => rfl
    | exc e S' => rfl
    | ok x S' =>
      rw [hc] at h
      simp only [sr_ok] at h ⊢
      cases x with
      | false => rfl
      | true =>
        rw [if_pos rfl] at h
        rw [if_pos rfl, if_pos rfl]
        cases hb : b ρ S' with
        | nx ρ' S2 => rw [hb] at h; exact whileL_mono c b k ρ' S2 h
        | cnt ρ' S2 => rw [hb] at h; exact whileL_mono c b k ρ' S2 h
        | brk ρ' S2 => rfl
        | ret v S2 => rfl
        | exc e ρ' S2 => rfl
        | bad => rfl
theorem whileL_le (c : TB) (b : TSt) {k n : Nat} (h : k ≤ n) (ρ : Env') (S : Store) (hb : whileL c b k ρ S ≠ .bad) : whileL c b n ρ S = whileL c b k ρ S := by
  induction h with
  | refl => rfl
  | step _ ih => rw [whileL_mono c b _ ρ S (by rw [ih]; exact hb), ih]
theorem sWhile_of {c : TB} {b : TSt} {ρ : Env'} {S : Store} {k : Nat} (h : whileL c b k ρ S ≠ .bad) : sWhile c b ρ S = whileL c b k ρ S := by
  have hx : ∃ k, whileL c b k ρ S ≠ .bad := ⟨k, h⟩
  unfold sWhile
  rw [dif_pos hx]
  rcases Nat.le_total k hx.choose with hl | hl
  · exact whileL_le c b hl ρ S h
  · exact (whileL_le c b hl ρ S hx.choose_spec).symm
theorem sWhile_bad {c : TB} {b : TSt} {ρ : Env'} {S : Store} (h : sWhile c b ρ S ≠ .bad) : ∃ k, sWhile c b ρ S = whileL c b k ρ S := by
  unfold sWhile at h ⊢
  split
  · exact ⟨_, rfl⟩
  · rename_i hn; rw [dif_neg hn] at h; exact absurd rfl h
/-- one turn -/
theorem sWhile_eq (c : TB) (b : TSt) (ρ : Env') (S : Store) : sWhile c b ρ S = (c ρ S).sr ρ fun x S => if x = true then match b ρ S with
    | .nx ρ' S' => sWhile c b ρ' S'
    | .cnt ρ' S' => sWhile c b ρ' S'
    | .brk ρ' S' => .nx ρ' S'
    | o => o
    else .nx ρ S := by
  have step : ∀ k, whileL c b (k + 1) ρ S ≠ .bad → whileL c b (k + 1) ρ S = (c ρ S).sr ρ fun x S => if x = true then match b ρ S with
    | .nx ρ' S' => sWhile c b ρ' S'
    | .cnt ρ' S' => sWhile c b ρ' S'
    | .brk ρ' S' => .nx ρ' S'
    | o => o
    else .nx ρ S := fun k h => by
    rw [whileL] at h ⊢
    cases hc : c ρ S with
    | bad => rfl
    | exc e S' => rfl
    | ok x S' =>
      rw [hc] at h
      simp only [sr_ok] at h ⊢
      cases x with
      | false => rfl
      | true =>
        rw [if_pos rfl] at h
        rw [if_pos rfl, if_pos rfl]
        cases hb : b ρ S' with
        | nx ρ' S2 => rw [hb] at h; exact (sWhile_of h).symm
        | cnt ρ' S2 => rw [hb] at h; exact (sWhile_of h).symm
        | brk ρ' S2 => rfl
        | ret v S2 => rfl
        | exc e ρ' S2 => rfl
        | bad => rfl
  by_cases hx : ∃ k, whileL c b k ρ S ≠ .bad
  · obtain ⟨k, hk⟩ := hx
    have hk' : whileL c b (k + 1) ρ S ≠ .bad := by rw [whileL_mono c b k ρ S hk]; exact hk
    rw [sWhile_of hk', step k hk']
  · have h0 : sWhile c b ρ S = .bad := by unfold sWhile; rw [dif_neg hx]
    rw [h0]
    symm
    cases hc : c ρ S with
    | bad => rfl
    | exc e S' =>
      exact absurd ⟨1, by rw [whileL, hc]; exact fun z => nomatch z⟩ hx
    | ok x S' =>
      simp only [sr_ok]
      cases x with
      | false => exact absurd ⟨1, by rw [whileL, hc]; exact fun z => nomatch z⟩ hx
      | true =>
        rw [if_pos rfl]
        have up : ∀ ρ' S2, (b ρ S' = .nx ρ' S2 ∨ b ρ S' = .cnt ρ' S2) → sWhile c b ρ' S2 = .bad := fun ρ' S2 hb => by
          refine Classical.byContradiction fun hn => ?_
          obtain ⟨k, hk⟩ := sWhile_bad hn
          refine hx ⟨k + 1, ?_⟩
          rw [whileL, hc]
          simp only [sr_ok, if_pos]
          rcases hb with hb | hb <;> (rw [hb]; rw [hk] at hn; exact hn)
        cases hb : b ρ S' with
        | nx ρ' S2 => exact up ρ' S2 (.inl hb)
        | cnt ρ' S2 => exact up ρ' S2 (.inr hb)
        | brk ρ' S2 => exact absurd ⟨1, by rw [whileL, hc]; simp only [sr_ok, if_pos]; rw [hb]; exact fun z => nomatch z⟩ hx
        | ret v S2 => exact absurd ⟨1, by rw [whileL, hc]; simp only [sr_ok, if_pos]; rw [hb]; exact fun z => nomatch z⟩ hx
        | exc e ρ' S2 => exact absurd ⟨1, by rw [whileL, hc]; simp only [sr_ok, if_pos]; rw [hb]; exact fun z => nomatch z⟩ hx
        | bad => rfl
theorem ss_while {c : Expr} {tc : TB} (hp : PassesOwn (model X.prog X.w) X.A X.env X.xe) (hc : PT X c (T_ X W tc)) (hb : PSs X body (S_ X W sb)) : PS X (.While c body [] pos) (S_ X W (sWhile tc sb)) := by
  refine PS.imp (ps_while hp hc hb) fun D σ H h => ?_
  obtain ⟨μ, S, ρ, R, E, p⟩ := h
  have hn : sWhile tc sb ρ S ≠ .bad := fun z => by rw [z] at p; exact p
  obtain ⟨k, hk⟩ := sWhile_bad hn
  rw [hk] at p
  refine ⟨fun m σ H => ∃ μ S ρ, RS X.K (cmX X) μ S H ∧ RE X.K μ H ρ σ ∧ PostS X.K (cmX X) μ H (whileL tc sb m ρ S) D W, ⟨k, μ, S, ρ, R, E, p⟩, fun m σ H hW => ?_⟩
  obtain ⟨μ, S, ρ, R, E, p⟩ := hW
  cases m with
  | zero => exact p.elim
  | succ m =>
    rw [whileL] at p
    refine ⟨μ, S, ρ, R, E, sr_stepB E R p fun x S1 μ1 H1 E1 R1 p => ?_⟩
    cases x with
    | false =>
      rw [if_neg (by decide)] at p ⊢
      exact p μ1 H1 σ E1 R1 (E.mono R E1)
    | true =>
      rw [if_pos rfl] at p ⊢
      refine ⟨fun σ' H' => ∃ μ S ρ, RS X.K (cmX X) μ S H' ∧ RE X.K μ H' ρ σ' ∧ PostS X.K (cmX X) μ H' (whileL tc sb m ρ S) D W, fun σ' H' hN => ⟨m, Nat.lt_succ_self m, hN⟩, μ1, S1, ρ, R1, E.mono R E1, ?_⟩
      have p := PostS.ext E1 p
      cases hb : sb ρ S1 with
      | nx ρ' S' => rw [hb] at p; exact fun μ2 H2 σ2 E2 R2 r2 => ⟨μ2, S', ρ', R2, r2, PostS.ext E2 p⟩
      | cnt ρ' S' => rw [hb] at p; exact fun μ2 H2 σ2 E2 R2 r2 => ⟨μ2, S', ρ', R2, r2, PostS.ext E2 p⟩
      | brk ρ' S' => rw [hb] at p; exact p
      | ret v S' => rw [hb] at p; exact p
      | exc e ρ' S' => rw [hb] at p; exact p
      | bad => rw [hb] at p; exact p
end
end
/-! Fw7: comprehensions, functions and their calls. -/
section
/-! ### comprehensions -/
theorem wipe_get (σ : L2.St) (j : Nat) : ∀ vs : List Nat, j ∈ vs → j < σ.length → (wipe σ vs)[j]? = some none
  | [], h, _ => by cases h
  | v :: vs, h, hl => by
    show ((wipe σ vs).set v none)[j]? = some none
    by_cases e : v = j
    · subst e
      exact List.getElem?_set_self (by rw [wipe_length]; exact hl)
    · rw [List.getElem?_set_ne e]
      refine wipe_get σ j vs ?_ hl
      rcases List.mem_cons.mp h with h | h
      · exact absurd h.symm e
      · exact h
theorem wipe_congr {σ σ' : L2.St} {vs : List Nat} (hl : σ'.length = σ.length) (h : ∀ i, i ∉ vs → σ'[i]? = σ[i]?) : wipe σ' vs = wipe σ vs := by
  refine List.ext_getElem? fun i => ?_
  by_cases hi : i ∈ vs
  · by_cases hb : i < σ.length
    · rw [wipe_get σ i vs hi hb, wipe_get σ' i vs hi (by rw [hl]; exact hb)]
    · rw [List.getElem?_eq_none_iff.mpr (by rw [wipe_length]; omega), List.getElem?_eq_none_iff.mpr (by rw [wipe_length]; have := hl; omega)]
  · rw [wipe_out hi, wipe_out hi, h i hi]
theorem RE.wipe {K : PySem.W.Frag} {μ : List Addr} {H : Hp} {ρ : Env'} {σ : L2.St} (E : RE K μ H ρ σ) : ∀ vs : List Nat, RE K μ H (wipeE ρ vs) (L2.wipe σ vs)
  | [] => E
  | v :: vs => by
    have ih := RE.wipe E vs
    refine ⟨by show ((wipeE ρ vs).set v none).length = ((L2.wipe σ vs).set v none).length; simp [ih.1], fun i x e => ?_⟩
    have e' : ((wipeE ρ vs).set v none)[i]? = some (some x) := e
    by_cases h : v = i
    · subst h
      have hl : v < (wipeE ρ vs).length := by
        have := (List.getElem?_eq_some_iff.mp e').1
        simpa using this
      rw [List.getElem?_set_self hl] at e'
      cases e'
    · rw [List.getElem?_set_ne h] at e'
      obtain ⟨w, e1, r⟩ := ih.2 i x e'
      exact ⟨w, by show ((L2.wipe σ vs).set v none)[i]? = _; rw [List.getElem?_set_ne h]; exact e1, r⟩
abbrev W0 : WX := fun _ _ _ _ => False
theorem PTs_imp {X : Cx} {ifs : List Expr} {t t' : TT} (h : PTs X ifs t) (w : ∀ σ H Q, t' σ H Q → t σ H Q) : PTs X ifs t' := ⟨fun pins s σ H Q I q => h.run pins s σ H Q I (w σ H Q q)⟩
section
variable {X : Cx} {W : WX}
theorem tts_nil : PTs X [] (T_ X W bYes) := PTs_imp pts_nil fun σ H Q ⟨μ, S, ρ, R, E, p⟩ => p μ H Ext.refl R
theorem tts_one {c : Expr} {tc : TB} (h : PT X c (T_ X W tc)) : PTs X [c] (T_ X W tc) := pts_one h
theorem comp_core {J : It} {μ0 : List Addr} {H0 Hb : Hp} {l : LI} {K : PySem.W.Frag} {cm : CM} (hK : K = X.K) (hcm : cm = cmX X) (ok : ItOk X.K (cmX X) J μ0 H0 l) {vs gv : List Nat} (hv : ∀ i ∈ gv, i ∈ vs) {t : Tgt} {c : TB} {ev : TV} {σ : L2.St} {ρ : Env'} {S : Store} {Q : VK} {Wq : XK} (E0 : Ext μ0 H0 μ0 H0)
    (R : RS X.K (cmX X) μ0 S H0) (E : RE X.K μ0 H0 ρ σ) {μb : List Addr} (Eb : Ext μb Hb μ0 H0) (h : PostL X.K (cmX X) μb Hb (compL t c ev (wipeE ρ vs) l l.1 [] S) Q Wq) (D : Addr) (hD : H0 D = none) :
    ∃ Wv : Nat → Nat → Hp → Prop, (∃ m, Wv 0 m (upd H0 D (.lst []))) ∧ ∀ i m H, Wv i m H →
      (J.stop i H ∧ Q (.ref D) H) ∨ (J.go i H ∧ ∃ Nx : Hp → Prop, (∀ H', Nx H' → ∃ m', m' < m ∧ Wv (i + 1) m' H') ∧ ∀ x H', J.yld i H x H' → G_ X gv t x (wipe σ vs) H' fun σ2 H2 => wipe σ2 vs = wipe σ vs ∧ T_ X W0 c σ2 H2 fun b H3 =>
        if b = true then E_ X W0 ev σ2 H3 fun y H4 => ∃ acc, H4 D = some (.lst acc) ∧ acc.length < sizeLine ∧ Nx (upd H4 D (.lst (acc ++ [y]))) else Nx H3) := by
  refine ⟨fun i m H => i + m = l.1.length ∧ ∃ μ S acc ws, Ext μ0 H0 μ H ∧ RS X.K (cmX X) μ S H ∧ D ∉ μ ∧ H D = some (.lst ws) ∧ acc.length ≤ i ∧ RVs X.K μ H acc ws ∧ PostL X.K (cmX X) μb Hb (compL t c ev (wipeE ρ vs) l (l.1.drop i) acc S) Q Wq,
    ⟨l.1.length, by omega, μ0, S, [], [], Ext.fresh hD, R.fresh hD, fun hm => R.trk hm hD, upd_same, Nat.le_refl _, .nil, by simpa using h⟩, fun i m H hW => ?_⟩
  obtain ⟨him, μ, S, acc, ws, Ex, R1, hm, hDw, hacc, ra, p⟩ := hW
  have Eρ : RE X.K μ H (wipeE ρ vs) (wipe σ vs) := (E.mono R Ex).wipe vs
  cases hd : l.1.drop i with
  | nil =>
    rw [hd] at p
    unfold compL at p
    split at p
    · rename_i lk
      refine .inl ⟨((ok.step i μ S H Ex R1 lk).1 (List.drop_eq_nil_iff.mp hd)), ?_⟩
      refine p μ H D (Eb.trans Ex) R1 ⟨Eb.none' R hD, hm, ws, hDw, ?_, ra⟩
      have := ok.len
      show acc.length ≤ sizeLine
      omega
    · exact p.elim
  | cons x r =>
    have hx : l.1[i]? = some x := by
      have := List.getElem?_drop (xs := l.1) (i := i) (j := 0)
      rw [hd] at this
      simpa using this.symm
    have hlen : i < l.1.length := (List.getElem?_eq_some_iff.mp hx).1
    have hr : r = l.1.drop (i + 1) := by
      rw [List.drop_add_one_eq_tail_drop, hd]; rfl
    rw [hd] at p
    unfold compL at p
    split at p
    · rename_i lk
      obtain ⟨hgo, hy⟩ := (ok.step i μ S H Ex R1 lk).2 x hx
      refine .inr ⟨hgo, fun H' => i + 1 + (m - 1) = l.1.length ∧ ∃ μ S acc ws, Ext μ0 H0 μ H' ∧ RS X.K (cmX X) μ S H' ∧ D ∉ μ ∧ H' D = some (.lst ws) ∧ acc.length ≤ i + 1 ∧ RVs X.K μ H' acc ws ∧ PostL X.K (cmX X) μb Hb (compL t c ev (wipeE ρ vs) l (l.1.drop (i + 1)) acc S) Q Wq, fun H' hN => ⟨m - 1, by omega, hN⟩, fun v H' hyl => ?_⟩
      obtain ⟨E1, R2, rv⟩ := hy v H' hyl
      cases ht : t x (wipeE ρ vs) with
      | none => rw [ht] at p; exact p.elim
      | some ρ1 =>
        rw [ht] at p
        dsimp only at p
        refine ⟨μ, S, wipeE ρ vs, x, ρ1, R2, Eρ.mono R1 E1, rv, ht, fun σ1 Eσ k1 l1 => ?_⟩
        have hw : wipe σ1 vs = wipe σ vs := by
          rw [wipe_congr (vs := vs) l1 fun i hi => k1 i fun z => hi (hv i z)]
          exact wipe_congr (wipe_length σ vs) fun i hi => wipe_out hi
        refine ⟨hw, μ, S, ρ1, R2, Eσ, ?_⟩
        cases hc : c ρ1 S with
        | bad => rw [hc] at p; exact p.elim
        | exc e S1 => rw [hc] at p; exact p.elim
        | ok b S1 =>
          rw [hc] at p
          intro μ3 H3 E3 R3
          have hm3 : D ∉ μ3 := fun z => by
            rcases E3.new D z with h | h
            · exact hm h
            · rw [E1.kp D _ hDw hm] at h; cases h
          have hD3 : H3 D = some (.lst ws) := E3.kp D _ (E1.kp D _ hDw hm) hm
          have Ex3 : Ext μ0 H0 μ3 H3 := (Ex.trans E1).trans E3
          cases b with
          | false =>
            rw [if_neg (by decide)]
            exact ⟨by omega, μ3, S1, acc, ws, Ex3, R3, hm3, hD3, by omega, (ra.mono R1 E1).mono R2 E3, by rw [← hr]; exact p⟩
          | true =>
            rw [if_pos rfl]
            refine ⟨μ3, S1, ρ1, R3, Eσ.mono R2 E3, ?_⟩
            dsimp only at p
            cases he : ev ρ1 S1 with
            | bad => rw [he] at p; exact p.elim
            | exc e S2 => rw [he] at p; exact p.elim
            | ok y S2 =>
              rw [he] at p
              intro μ4 H4 w E4 R4 rw4
              have hm4 : D ∉ μ4 := fun z => by
                rcases E4.new D z with h | h
                · exact hm3 h
                · rw [hD3] at h; cases h
              have hD4 : H4 D = some (.lst ws) := E4.kp D _ hD3 hm3
              have hn : acc.length < sizeLine := by have := ok.len; omega
              refine ⟨ws, hD4, ?_, by omega, μ4, S2, acc ++ [y], ws ++ [w], (Ex3.trans E4).off hD, R4.off hm4 hD4, hm4, upd_same, by simp; omega, ?_, by rw [← hr]; exact p⟩
              · rw [← ra.length]; exact hn
              · exact RVs.mono2 (Up2.off hD4) (((((ra.mono R1 E1).mono R2 E3).mono R3 E4)).append (.cons rw4 .nil))
    · exact p.elim
theorem lComp_imp {t : Tgt} {it : TIt} {c : TB} {ev : TV} {vs gv : List Nat} (hv : ∀ i ∈ gv, i ∈ vs) {σ : L2.St} {H : Hp} {Q : VK} (h : L_ X W (lComp t it c ev vs) σ H Q) : tLc (I_ X W it) (G_ X gv t) (T_ X W0 c) (E_ X W0 ev) vs σ H Q := by
  obtain ⟨μ, S, ρ, R, E, p⟩ := h
  refine ⟨μ, S, ρ, R, E, ?_⟩
  unfold lComp at p
  cases hr : it ρ S with
  | bad => rw [hr] at p; exact p
  | exc x S1 => rw [hr] at p; exact p
  | ok l S1 =>
    rw [hr] at p
    intro μ1 H1 J E1 R1 ok D hD
    exact comp_core (K := X.K) (cm := cmX X) rfl rfl ok hv Ext.refl R1 (E.mono R E1) E1 p D hD
theorem sl_comp {elt tg iter : Expr} {ifs : List Expr} {scope : Scope} {own : List (Str × Nat)} {pos : Pos} {it : TIt} {t : Tgt} {c : TB} {ev : TV} {gv : List Nat} (hc : X.calm = true) (hN : X.N.Nodup) (hi : PI X tg iter (I_ X W it)) (ok : BlkOk X.N X.env.scope scope own)
    (hg : ∀ (s : Shared) (H : Hp) (C : Addr) (cl : List (Str × Addr)) (fp : List Addr), PG (X.blk s H scope (compEnvC scope cl C X.env) fp) tg (G_ (X.blk s H scope (compEnvC scope cl C X.env) fp) gv t)) (ht : ∀ (s : Shared) (H : Hp) (C : Addr) (cl : List (Str × Addr)) (fp : List Addr), PTs (X.blk s H scope (compEnvC scope cl C X.env) fp) ifs (T_ (X.blk s H scope (compEnvC scope cl C X.env) fp) W0 c))
    (he : ∀ (s : Shared) (H : Hp) (C : Addr) (cl : List (Str × Addr)) (fp : List Addr), PE (X.blk s H scope (compEnvC scope cl C X.env) fp) elt (E_ (X.blk s H scope (compEnvC scope cl C X.env) fp) W0 ev)) (hv : ∀ i ∈ gv, i ∈ own.map (·.2) := by decide) (hs : ∀ x, foldedSetIterable iter X.env x = pure x := by intro _; rfl) :
    PE X (.ListComp elt [⟨tg, iter, ifs, 0⟩] scope pos) (L_ X W (lComp t it c ev (own.map (·.2)))) :=
  PE.imp (pe_lc (g := G_ X gv t) (tt := T_ X W0 c) (te := E_ X W0 ev) hc hN hi ok hg ht he hs) fun _ _ _ h => lComp_imp hv h
theorem vNew_imp {el : TL} {σ : L2.St} {H : Hp} {Q : VK} (h : E_ X W (vNew el) σ H Q) : L_ X W el σ H Q := by
  obtain ⟨μ, S, ρ, R, E, p⟩ := h
  refine ⟨μ, S, ρ, R, E, PostL.step (P := fun μ H r => Post X.K (cmX X) μ H r Q (atσ W σ)) p (fun _ _ h => h) (fun h => h) fun l S1 μ1 H1 a E1 R1 rl p => ?_⟩
  unfold RL at rl
  split at rl
  · rename_i hn
    rw [hn] at p
    obtain ⟨h0, hm, vs, ha, hl, r⟩ := rl
    obtain ⟨E2, R2⟩ := adopt (o := .lst l.1) R1 hm ⟨vs, ha, hl, r⟩ E1 h0
    refine p _ _ _ E2 R2 (.ref ?_)
    rw [List.getElem?_append_right (by rw [R1.len]; exact Nat.le_refl _), R1.len, Nat.sub_self]
    rfl
  · rename_i j hn
    rw [hn] at p
    exact p _ _ _ E1 R1 (.ref rl.1)
theorem sSet_imp {i : Nat} {ev : TV} {σ : L2.St} {H : Hp} {D : Ends} (h : S_ X W (sSet i ev) D σ H) : E_ X W ev σ H fun v H1 => D.nx (σ.set i (some v)) H1 := by
  obtain ⟨μ, S, ρ, R, E, p⟩ := h
  exact ⟨μ, S, ρ, R, E, sr_step E R p fun x S1 μ1 H1 v E1 R1 rv p => p μ1 H1 _ E1 R1 ((E.mono R E1).set rv i)⟩
/-- name = [..] on one line, the name a local -/
theorem ss_setLc {i : Nat} {y : Str} {py : Pos} {elt tg iter : Expr} {ifs : List Expr} {scope : Scope} {own : List (Str × Nat)} {pos spos : Pos} {it : TIt} {t : Tgt} {c : TB} {ev : TV} {gv : List Nat} (hc : X.calm = true) (hN : X.N.Nodup) (hy : X.N[i]? = some y) (hyl : X.env.scope.names.lookup y = some .local)
    (hsw : swapsWith (.ListComp elt [⟨tg, iter, ifs, 0⟩] scope pos) (some (.Name y py)) spos.line X.env = pure true) (hi : PI X tg iter (I_ X W it)) (ok : BlkOk X.N X.env.scope scope own)
    (hg : ∀ (s : Shared) (H : Hp) (C : Addr) (cl : List (Str × Addr)) (fp : List Addr), PG (X.blk s H scope (compEnvC scope cl C X.env) fp) tg (G_ (X.blk s H scope (compEnvC scope cl C X.env) fp) gv t)) (ht : ∀ (s : Shared) (H : Hp) (C : Addr) (cl : List (Str × Addr)) (fp : List Addr), PTs (X.blk s H scope (compEnvC scope cl C X.env) fp) ifs (T_ (X.blk s H scope (compEnvC scope cl C X.env) fp) W0 c))
    (he : ∀ (s : Shared) (H : Hp) (C : Addr) (cl : List (Str × Addr)) (fp : List Addr), PE (X.blk s H scope (compEnvC scope cl C X.env) fp) elt (E_ (X.blk s H scope (compEnvC scope cl C X.env) fp) W0 ev)) (hv : ∀ i ∈ gv, i ∈ own.map (·.2) := by decide) (hs : ∀ x, foldedSetIterable iter X.env x = pure x := by intro _; rfl) :
    PS X (.Assign [.Name y py] (.ListComp elt [⟨tg, iter, ifs, 0⟩] scope pos) spos) (S_ X W (sSet i (vNew (lComp t it c ev (own.map (·.2)))))) :=
  PS.imp (ps_setLc (g := G_ X gv t) (tt := T_ X W0 c) (te := E_ X W0 ev) hc hN hy hyl hsw hi ok hg ht he hs) fun _ _ _ h => lComp_imp hv (vNew_imp (sSet_imp h))
end
/-! ### what a function leaves: the store without what it threw away -/
section
variable {K : PySem.W.Frag} {cm : CM} {μ μ' μ'' : List Addr} {H H' : Hp} {S S' : Store}
mutual
theorem RV.dom : ∀ {x : PV} {v : V}, RV K μ H x v → x.low μ.length = true
  | _, _, .non => rfl
  | _, _, .bl b => rfl
  | _, _, .int i => rfl
  | _, _, .str x h => rfl
  | _, _, .tup _ _ r => by simp only [PV.low]; exact RVs.dom r
  | _, _, .frl _ _ r => by simp only [PV.low]; exact RVs.dom r
  | _, _, .ref h => by simp only [PV.low, decide_eq_true_eq]; exact (List.getElem?_eq_some_iff.mp h).1
theorem RVs.dom : ∀ {xs : List PV} {vs : List V}, RVs K μ H xs vs → PV.lows μ.length xs = true
  | _, _, .nil => rfl
  | _, _, .cons h t => by simp only [PV.lows, RV.dom h, RVs.dom t, Bool.and_self]
end
theorem RKs.dom {κ : Type} {xs : List (κ × PV)} {vs : List (κ × V)} (h : RKs K μ H xs vs) : lowK μ.length xs = true := by
  induction h with
  | nil => rfl
  | cons h _ ih => simp only [lowK, RV.dom h.2, ih, Bool.and_self]
theorem RNs.dom {xs : List (PV × PV)} {vs : List (NestedKey × Addr × Value)} (h : RNs K μ H xs vs) : lowN μ.length xs = true := by
  induction h with
  | nil => rfl
  | cons h _ ih =>
    obtain ⟨_, _, h1, u, _, h2⟩ := h
    simp only [lowN, RV.dom h1, RV.dom h2, ih, Bool.and_self]
theorem RO.dom {a : Addr} {o : PObj} (h : RO K cm μ H a o) : o.low μ.length = true := by
  cases o with
  | lst xs => obtain ⟨ws, e1, l, r⟩ := h; exact r.dom
  | dic xs => obtain ⟨ws, e1, l, r⟩ := h; exact r.dom
  | ins C fs => obtain ⟨Ca, dx, ws, c, e1, l, r⟩ := h; exact r.dom
  | exn C fs => obtain ⟨cls, oe, d, c, e1, z, hd, q⟩ := h; exact q.elim (fun q => by rw [show PObj.low μ.length (.exn C fs) = lowK μ.length fs from rfl, q.1]; rfl) fun ⟨da, fv, q1, q2, q3⟩ => q3.dom
  | dicW xs => obtain ⟨ob, ws, e1, l, r⟩ := h; exact r.dom
  | dicN xs => obtain ⟨ws, e1, _, l, r⟩ := h; exact r.dom
  | dicM xs => obtain ⟨ob, ws, e1, _, l, r⟩ := h; exact r.dom
mutual
theorem RV.cut {n : Nat} (hp : ∀ (i : Nat) (a : Addr), i < n → μ'[i]? = some a → μ''[i]? = some a) : ∀ {x : PV} {v : V}, RV K μ' H x v → x.low n = true → RV K μ'' H x v
  | _, _, .non, _ => .non
  | _, _, .bl b, _ => .bl b
  | _, _, .int i, _ => .int i
  | _, _, .str x h, _ => .str x h
  | _, _, .tup s l r, b => .tup s l (RVs.cut' hp r b)
  | _, _, .frl s l r, b => .frl s l (RVs.cut' hp r b)
  | _, _, .ref h, b => .ref (hp _ _ (by simpa [PV.low] using b) h)
theorem RVs.cut' {n : Nat} (hp : ∀ (i : Nat) (a : Addr), i < n → μ'[i]? = some a → μ''[i]? = some a) : ∀ {xs : List PV} {vs : List V}, RVs K μ' H xs vs → PV.lows n xs = true → RVs K μ'' H xs vs
  | _, _, .nil, _ => .nil
  | _, _, .cons h t, b => by
    simp only [PV.lows, Bool.and_eq_true] at b
    exact .cons (RV.cut hp h b.1) (RVs.cut' hp t b.2)
end
theorem RKs.cut {κ : Type} {n : Nat} (hp : ∀ (i : Nat) (a : Addr), i < n → μ'[i]? = some a → μ''[i]? = some a) {xs : List (κ × PV)} {vs : List (κ × V)} (h : RKs K μ' H xs vs) (b : lowK n xs = true) : RKs K μ'' H xs vs := by
  induction h with
  | nil => exact .nil
  | cons h _ ih =>
    simp only [lowK, Bool.and_eq_true] at b
    exact .cons ⟨h.1, h.2.cut hp b.1⟩ (ih b.2)
theorem RNs.cut {n : Nat} (hp : ∀ (i : Nat) (a : Addr), i < n → μ'[i]? = some a → μ''[i]? = some a) {xs : List (PV × PV)} {vs : List (NestedKey × Addr × Value)} (h : RNs K μ' H xs vs) (b : lowN n xs = true) : RNs K μ'' H xs vs := by
  induction h with
  | nil => exact .nil
  | cons h _ ih =>
    simp only [lowN, Bool.and_eq_true] at b
    obtain ⟨h0, h1, h2, u, h3, h4⟩ := h
    exact .cons ⟨h0, h1, h2.cut hp b.1.1, u, h3, h4.cut hp b.1.2⟩ (ih b.2)
theorem RO.cut {n : Nat} (hp : ∀ (i : Nat) (a : Addr), i < n → μ'[i]? = some a → μ''[i]? = some a) {a : Addr} {o : PObj} (h : RO K cm μ' H a o) (b : o.low n = true) : RO K cm μ'' H a o := by
  cases o with
  | lst xs => obtain ⟨ws, e1, l, r⟩ := h; exact ⟨ws, e1, l, r.cut' hp b⟩
  | dic xs => obtain ⟨ws, e1, l, r⟩ := h; exact ⟨ws, e1, l, r.cut hp b⟩
  | ins C fs => obtain ⟨Ca, dx, ws, c, e1, l, r⟩ := h; exact ⟨Ca, dx, ws, c, e1, l, r.cut hp b⟩
  | exn C fs => obtain ⟨cls, oe, d, c, e1, z, hd, q⟩ := h; exact ⟨cls, oe, d, c, e1, z, hd, q.elim .inl fun ⟨da, fv, q1, q2, q3⟩ => .inr ⟨da, fv, q1, q2, q3.cut hp b⟩⟩
  | dicW xs => obtain ⟨ob, ws, e1, l, r⟩ := h; exact ⟨ob, ws, e1, l, r.cut hp b⟩
  | dicN xs => obtain ⟨ws, e1, n, l, r⟩ := h; exact ⟨ws, e1, n, l, r.cut hp b⟩
  | dicM xs => obtain ⟨ob, ws, e1, n, l, r⟩ := h; exact ⟨ob, ws, e1, n, l, r.cut hp b⟩
theorem gc_take (R0 : RS K cm μ S H) (E : Ext μ H μ' H') (R : RS K cm μ' S' H') (g : gcOk S S') : Ext μ H (μ'.take S.length) H' ∧ RS K cm (μ'.take S.length) (S'.take S.length) H' ∧ (∀ (i : Nat) (a : Addr), i < S.length → μ'[i]? = some a → (μ'.take S.length)[i]? = some a) := by
  have hp : ∀ (i : Nat) (a : Addr), i < S.length → μ'[i]? = some a → (μ'.take S.length)[i]? = some a := fun i a hi h => by rw [List.getElem?_take_of_lt hi]; exact h
  refine ⟨⟨fun i a h => hp i a ?_ (E.pre i a h), fun b hb => E.new b (List.mem_of_mem_take hb), E.kp, E.kz⟩, ⟨by simp [R.len], ?_, fun i a o h e => ?_⟩, hp⟩
  · rw [← R0.len]; exact (List.getElem?_eq_some_iff.mp h).1
  · exact R.nd.sublist (List.take_sublist _ _)
  · have hi : i < S.length := by
      have := (List.getElem?_eq_some_iff.mp h).1
      simp at this; omega
    rw [List.getElem?_take_of_lt hi] at h e
    refine (R.ob i a o h e).cut hp ?_
    rcases g.2 i hi with g | ⟨o', g, b⟩
    · rw [e] at g
      have hS : i < μ.length := by rw [R0.len]; exact hi
      have := (R0.ob i μ[i] o (List.getElem?_eq_getElem hS) g.symm).dom
      rw [R0.len] at this
      exact this
    · rw [e] at g; cases g; exact b
theorem gc_keep (R0 : RS K cm μ S H) (E : Ext μ H μ' H') (R : RS K cm μ' S' H') (g : gcOk S S') {j : Nat} {ad : Addr} {ob : PObj} (hj : S.length ≤ j) (ha : μ'[j]? = some ad) (ho : S'[j]? = some ob) (hb : ob.low S.length = true) :
    Ext μ H (μ'.take S.length ++ [ad]) H' ∧ RS K cm (μ'.take S.length ++ [ad]) (S'.take S.length ++ [ob]) H' ∧ (μ'.take S.length ++ [ad])[S.length]? = some ad := by
  obtain ⟨E1, R1, hp⟩ := gc_take R0 E R g
  have hlen : (μ'.take S.length).length = S.length := by
    have := g.1
    simp [R.len]; omega
  have hm : ad ∉ μ'.take S.length := fun h => by
    obtain ⟨i, hi⟩ := List.mem_iff_getElem?.mp h
    have h1 : i < S.length := by
      have := (List.getElem?_eq_some_iff.mp hi).1
      omega
    rw [List.getElem?_take_of_lt h1] at hi
    have := nd_ix R.nd hi ha
    omega
  have hr := (R.ob j ad ob ha ho).cut hp hb
  refine ⟨⟨fun i a h => ?_, fun b hb' => ?_, E.kp, E.kz⟩, ⟨by simp [hlen]; have := g.1; omega, ?_, fun i a o h e => ?_⟩, ?_⟩
  · have := E1.pre i a h
    rw [List.getElem?_append_left (List.getElem?_eq_some_iff.mp this).1]; exact this
  · rcases List.mem_append.mp hb' with h | h
    · exact E1.new b h
    · rw [List.mem_singleton.mp h]; exact E.new ad (List.mem_of_getElem? ha)
  · rw [List.nodup_append]
    exact ⟨R1.nd, by simp, fun x hx y hy => by rw [List.mem_singleton.mp hy]; rintro rfl; exact hm hx⟩
  · have up : Up2 (μ'.take S.length) H' (μ'.take S.length ++ [ad]) H' := ⟨fun i a h => by rw [List.getElem?_append_left (List.getElem?_eq_some_iff.mp h).1]; exact h, fun _ _ h => h, fun _ _ _ h => h, fun _ _ h => h⟩
    by_cases hi : i < S.length
    · rw [List.getElem?_append_left (by rw [hlen]; exact hi)] at h
      rw [List.getElem?_append_left (by have := R1.len; omega)] at e
      exact (R1.ob i a o h e).mono2 up rfl
    · have h1 := (List.getElem?_eq_some_iff.mp h).1
      simp only [List.length_append, hlen, List.length_singleton] at h1
      have : i = S.length := by omega
      subst this
      rw [List.getElem?_append_right (by omega), hlen, Nat.sub_self] at h
      have hl2 : (S'.take S.length).length = S.length := by have := R1.len; omega
      rw [List.getElem?_append_right (by omega), hl2, Nat.sub_self] at e
      simp at h e
      subst h e
      exact hr.mono2 up rfl
  · rw [List.getElem?_append_right (by omega), hlen, Nat.sub_self]; rfl
theorem gcV_ok {v : PV} {u : V} {Q : VK} {Wq : XK} (R0 : RS K cm μ S H) (E : Ext μ H μ' H') (R : RS K cm μ' S' H') (rv : RV K μ' H' v u) (h : Post K cm μ H (gcV S v S') Q Wq) : Q u H' := by
  unfold gcV at h
  split at h
  · rename_i g
    split at h
    · rename_i hb
      obtain ⟨E1, R1, hp⟩ := gc_take R0 E R g
      exact h _ _ _ E1 R1 (rv.cut hp hb)
    · split at h
      · rename_i j _
        split at h
        · rename_i o ho
          split at h
          · rename_i hc
            cases rv with
            | ref ha =>
              obtain ⟨E1, R1, hl⟩ := gc_keep R0 E R g hc.1 ha ho hc.2
              exact h _ _ _ E1 R1 (.ref hl)
          · exact h _ _ _ E R rv
        · exact h _ _ _ E R rv
      · exact h _ _ _ E R rv
  · exact h _ _ _ E R rv
theorem gcX_ok {e : PX} {c : Value} {d : Option Addr} {Q : VK} {Wq : XK} (R0 : RS K cm μ S H) (E : Ext μ H μ' H') (R : RS K cm μ' S' H') (rx : RX K cm μ' H' e c d) (h : Post K cm μ H (gcX S e S') Q Wq) : Wq c d H' := by
  unfold gcX at h
  split at h
  · rename_i g
    obtain ⟨E1, R1, hp⟩ := gc_take R0 E R g.1
    refine h _ _ _ _ E1 R1 ⟨rx.1, ?_⟩
    rcases rx.2 with q | ⟨da, fv, q1, q2, q3⟩
    · exact .inl q
    · exact .inr ⟨da, fv, q1, q2, q3.cut hp g.2⟩
  · exact h _ _ _ _ E R rx
end
/-! ### a def, by its body -/
def spF (K : PySem.W.Frag) (cm : CM) (n : Nat) (F : List PV → Store → Res PV) : Sp := fun vs H Q E => vs.length = n ∧ ∃ μ S args, RS K cm μ S H ∧ RVs K μ H args vs ∧ Post K cm μ H (F args S) Q E
abbrev WEx (E : XK) : WX := fun c d _ H => E c d H
theorem RE.start {K : PySem.W.Frag} {μ : List Addr} {H : Hp} {args : List PV} {vs : List V} (r : RVs K μ H args vs) (n : Nat) : RE K μ H (args.map some ++ List.replicate n none) (vs.map some ++ List.replicate n none) := by
  have hl := r.length
  refine ⟨by simp [hl], fun i x e => ?_⟩
  by_cases hi : i < args.length
  · rw [List.getElem?_append_left (by simpa using hi)] at e
    rw [List.getElem?_map] at e
    cases h : args[i]? with
    | none => rw [h] at e; cases e
    | some y =>
      rw [h] at e
      cases e
      obtain ⟨v, hv, rv⟩ := r.get h
      refine ⟨v, ?_, rv⟩
      rw [List.getElem?_append_left (by simp; omega), List.getElem?_map, hv]; rfl
  · rw [List.getElem?_append_right (by simpa using hi)] at e
    have := List.mem_of_getElem? e
    rw [List.mem_replicate] at this
    cases this.2
section
variable {P : Program} {w : World} {K : PySem.W.Frag} {mg : Str → Option Value} {base : Heap}
abbrev cmM (P : Program) (w : World) (mg : Str → Option Value) : CM := ⟨fun n c => mg n = some c, P, w⟩
theorem fn_ok {x qual : Str} {st : Stmt} {f : Addr} {fd : FuncData} {N ps : List Str} {k : Nat} (F : FunD K x qual (defArgs st) (defBody st) (defScope st) [] [] f fd) (Sc : FnScope N ps (defScope st)) (b : TSt)
    (hb : ∀ (cdv : Value) (A : Around) (outer : List Env) (s : Shared) (H : Hp) (E : XK), Room k (A.deeper (envOfC qual (defScope st) s.heap.objs.size f cdv)) →
      Takes (cxOf (L2.CX P w) P w K mg base N qual (defScope st) f cdv A outer s H E) (WEx E) →
      PassesOwn (model P w) (A.deeper (envOfC qual (defScope st) s.heap.objs.size f cdv)) (envOfC qual (defScope st) s.heap.objs.size f cdv) (cxOf (L2.CX P w) P w K mg base N qual (defScope st) f cdv A outer s H E).xe →
      PSs (cxOf (L2.CX P w) P w K mg base N qual (defScope st) f cdv A outer s H E) (defBody st) (S_ (cxOf (L2.CX P w) P w K mg base N qual (defScope st) f cdv A outer s H E) (WEx E) b)) :
    FnOk P w K mg base (L2.CX P w) (k + 1) f fd ps (spF K (cmM P w mg) ps.length (fnV ps.length N.length b)) := by
  refine F.ok (CX := L2.CX P w) Sc (fun vs H Q E h => h.1) fun cdv A outer s H vs Q E hr h => ?_
  refine ⟨_, hb cdv A outer s H E hr (takes_of rfl rfl rfl rfl) (passes_of rfl), ?_⟩
  obtain ⟨hl, μ, S, args, R, rv, p⟩ := h
  have hal : args.length = ps.length := by rw [rv.length]; exact hl
  refine ⟨μ, S, args.map some ++ List.replicate (N.length - ps.length) none, R, ?_, ?_⟩
  · have := RE.start rv (N.length - ps.length)
    unfold L2.start
    rw [hl]
    exact this
  · unfold fnV at p
    rw [if_pos hal] at p
    cases hbd : b (args.map some ++ List.replicate (N.length - ps.length) none) S with
    | ret v S' => rw [hbd] at p; exact fun μ' H' u E1 R1 r1 => gcV_ok R E1 R1 r1 p
    | nx ρ S' => rw [hbd] at p; exact fun μ' H' σ' E1 R1 _ => gcV_ok R E1 R1 .non p
    | exc e ρ S' => rw [hbd] at p; exact fun μ' H' σ' c d E1 R1 _ rx => gcX_ok R E1 R1 rx p
    | brk ρ S' => rw [hbd] at p; exact p.elim
    | cnt ρ S' => rw [hbd] at p; exact p.elim
    | bad => rw [hbd] at p; exact p.elim
end
/-! ### the call of a def -/
section
variable {X : Cx} {W : WX} {k : Nat} {f : Addr} {fd : FuncData} {ps : List Str} {F : List PV → Store → Res PV} {x : Str} {p pos : Pos} {e : Expr} {es : List Expr} {evs : TVs}
def vApp0 (F : List PV → Store → Res PV) : TV := fun ρ S => match F [] S with
  | .ok v S => .ok v S
  | _ => .bad
theorem sv_call (hF : FnOk X.prog X.w X.K X.mg X.base (L2.CX X.prog X.w) k f fd ps (spF X.K (cmX X) ps.length F)) (hr : Room k X.A) (hg : Gl X x) (hm : X.mg x = some (.ref f)) (hk : PySem.W.keepIn X.K (.ref f) = true) (hb : Binds X.K fd ps []) (hx : ∀ σ, PassesAt (L2.CX X.prog X.w) X σ (WE W σ))
    (hn : ∀ ρ S xs S', evs ρ S = .ok xs S' → xs.length = ps.length) (ha : PA X (e :: es) (A_ X W evs)) (hdb : (x == ("__debug__" : Str)) = false := by decide) (he : starEach (e :: es) X.env = (false, eval e X.env) :: starEach es X.env := by rfl) (hpl : (backTo pos (starEach es X.env)).any (·.1) = false := by rfl) :
    PE X (.Call (.Name x p) (e :: es) [] pos) (E_ X W (vApp F evs)) := by
  refine PE.imp (pe_callS (E := WE W) hF hr hg hm hk hb hx ha hdb he hpl) fun σ H Q h => ?_
  obtain ⟨μ, S, ρ, R, E, q⟩ := h
  refine ⟨μ, S, ρ, R, E, ?_⟩
  unfold vApp at q
  cases hev : evs ρ S with
  | bad => rw [hev] at q; exact q
  | exc e S1 => rw [hev] at q; exact q
  | ok xs S1 =>
    rw [hev] at q
    exact fun μ1 H1 vs E1 R1 rv => ⟨by rw [← rv.length]; exact hn _ _ _ _ hev, μ1, S1, xs, R1, rv, Post.ext E1 q⟩
theorem pass_take (tk : Takes X W) : ∀ σ, PassesAt (L2.CX X.prog X.w) X σ (WE W σ) := fun σ => passAt tk σ
theorem pass_none : ∀ σ, PassesAt (L2.CX X.prog X.w) X σ (WE W0 σ) := fun σ pins H s e s' I h => by
  obtain ⟨_, _, _, _, _, _, _, _, _, _, _, _, q⟩ := h
  exact q.elim
end
end
/-! Fw8: lists joined, methods of lists and texts, dicts written out, constants of the module. -/
section
section
variable {X : Cx} {W : WX} {a b e o : Expr} {es : List Expr} {ea eb eo : TV} {la lb el : TL} {evs : TVs} {pos apos cpos : Pos}
theorem sl_val (h : PE X e (E_ X W ea)) : PE X e (L_ X W (lVal ea)) := by
  refine PE.imp h fun σ H Q h => ?_
  obtain ⟨μ, S, ρ, R, E, p⟩ := h
  refine ⟨μ, S, ρ, R, E, Post.step (P := fun μ H r => PostL X.K (cmX X) μ H r Q (atσ W σ)) p (fun _ _ h => h) (fun h => h) fun x S1 μ1 H1 v E1 R1 rv p => ?_⟩
  split at p
  · rename_i j
    split at p
    · rename_i xs hS
      cases rv with
      | ref hj => exact p μ1 H1 _ E1 R1 ⟨hj, hS⟩
    · exact p.elim
  · exact p.elim
theorem sl_cat (ha : PE X a (L_ X W la)) (hb : PE X b (L_ X W lb)) : PE X (.BinOp a .Add b pos) (L_ X W (lCat la lb)) := by
  refine PE.imp (pe_op op_cat ha hb) fun σ H Q h => ?_
  obtain ⟨μ, S, ρ, R, E, p⟩ := h
  refine ⟨μ, S, ρ, R, E, PostL.step (P := fun μ H r => PostL X.K (cmX X) μ H r Q (atσ W σ)) p (fun _ _ h => h) (fun h => h) fun l S1 μ1 H1 ad E1 R1 rl p => ?_⟩
  refine ⟨μ1, S1, ρ, R1, E.mono R E1, PostL.step (P := fun μ H r => PostL X.K (cmX X) μ H r Q (atσ W σ)) (p.ext E1) (fun _ _ h => h) (fun h => h) fun m S2 μ2 H2 bd E2 R2 rm p => ?_⟩
  split at p
  · rename_i hc
    obtain ⟨vs, h1, l1, r1⟩ := rl.keep R1 R2 E2 hc.1
    obtain ⟨ws, h2, l2, r2⟩ := rm.lst R2
    refine ⟨ad, bd, vs, ws, rfl, rfl, h1, h2, by rw [← r1.length, ← r2.length]; exact hc.2, fun q hq => ?_⟩
    exact fresh_L E2 R2 p hq (r1.append r2) (by rw [List.length_append]; exact hc.2)
  · exact p.elim
/-! ### methods of lists -/
def rLm (K : PySem.W.Frag) (cm : CM) (f : List PV → List PV → Option (PV × List PV)) : V → List V → Hp → VK → Prop := fun v ws H Q => ∃ μ S j a xs ys r zs, RS K cm μ S H ∧ v = .ref a ∧ μ[j]? = some a ∧ S[j]? = some (.lst xs) ∧ RVs K μ H ys ws ∧ f xs ys = some (r, zs) ∧
  ∀ H' u, Ext μ H μ H' → RS K cm μ (S.set j (.lst zs)) H' → RV K μ H' r u → Q u H'
theorem vLm_imp {f : List PV → List PV → Option (PV × List PV)} {σ : L2.St} {H : Hp} {Q : VK} (h : E_ X W (vLm f eo evs) σ H Q) : tBM X.K "list" (rLm X.K (cmX X) f) (E_ X W eo) (A_ X W evs) σ H Q := by
  obtain ⟨μ, S, ρ, R, E, p⟩ := h
  refine ⟨μ, S, ρ, R, E, Post.step (P := fun μ H r => Post X.K (cmX X) μ H r Q (atσ W σ)) p (fun _ _ h => h) (fun h => h) fun x S1 μ1 H1 v E1 R1 rv p => ?_⟩
  split at p
  · rename_i j
    split at p
    · rename_i xs0 hS0
      cases rv with
      | @ref _ ad hj =>
        obtain ⟨vs0, h0, _, _⟩ := R1.ob j ad _ hj hS0
        refine ⟨.inl ⟨rfl, vs0, SqL.of h0⟩, μ1, S1, ρ, R1, E.mono R E1, PostA.step (P := fun μ H r => Post X.K (cmX X) μ H r Q (atσ W σ)) (Post.ext E1 p) (fun _ _ h => h) (fun h => h) fun ys S2 μ2 H2 ws E2 R2 rvs p => ?_⟩
        split at p
        · rename_i xs hS
          split at p
          · rename_i r zs hf
            exact ⟨μ2, S2, j, ad, xs, ys, r, zs, R2, rfl, E2.pre _ _ hj, hS, rvs, hf, fun H' u E3 R3 r3 => p μ2 H' u (E2.trans E3) R3 r3⟩
          · exact p.elim
        · exact p.elim
    · exact p.elim
  · exact p.elim
theorem sv_lm {name : Str} {id : String} {f : List PV → List PV → Option (PV × List PV)} (slot : Slot "list" name id) (hty : typeOf (.builtin id) = pure (.type "method_descriptor")) (hm : MtR X id (rLm X.K (cmX X) f)) (ho : PE X o (E_ X W eo)) (ha : PA X (e :: es) (A_ X W evs))
    (hbase : attributeBase o name X.env (eval o X.env) = eval o X.env := by rfl)
    (hfew : ((backTo cpos (starEach (e :: es) X.env)).all (fun x => !x.1) && (backToKw cpos (keywordEach [] X.env)).all (fun x => x.1.isSome)
      && decide ((e :: es).length + ([] : List Keyword).length + (if ([] : List Keyword).isEmpty then 0 else 1) < 30)) = true := by rfl)
    (hline : (apos.endLine == cpos.line) = true := by rfl) (hs : starEach (e :: es) X.env = (false, eval e X.env) :: starEach es X.env := by rfl) (hplain : (backTo cpos (starEach es X.env)).any (·.1) = false := by rfl) :
    PE X (.Call (.Attribute o name apos) (e :: es) [] cpos) (E_ X W (vLm f eo evs)) :=
  PE.imp (pe_bm PySem.F.plainAttrs_list slot hty hm ho ha hbase hfew hline hs hplain) fun _ _ _ h => vLm_imp h
theorem ms_append : MtR X "list.append" (rLm X.K (cmX X) mAppend) := by
  intro pins s σ H x vs v us Q I rx rv h
  obtain ⟨μ, S, j, a, xs, ys, r, zs, R, rfl, hj, hS, ry, hf, q⟩ := h
  unfold mAppend at hf
  split at hf
  · split at hf
    · rename_i y hl
      cases hf
      obtain ⟨w, rfl, r1⟩ := ry.one
      obtain ⟨vs0, h0, _, r0⟩ := R.ob j a _ hj hS
      refine mt_append pins s σ H _ _ v us Q I rx rv ⟨a, vs0, w, rfl, rfl, h0, by rw [← r0.length]; exact hl, ?_⟩
      exact q _ _ (Ext.put hj (.lst h0)) (R.put hj (.lst h0) ⟨_, upd_same, by simp; omega, RVs.mono R (Ext.put hj (.lst h0)) (r0.append (.cons r1 .nil))⟩) .non
    · cases hf
  · cases hf
/-! o.extend(list) -/
def rExtS (K : PySem.W.Frag) (cm : CM) : V → List V → Hp → VK → Prop := fun v ws H Q => ∃ μ S j a b xs ys us, RS K cm μ S H ∧ v = .ref a ∧ ws = [.ref b] ∧ μ[j]? = some a ∧ S[j]? = some (.lst xs) ∧ H b = some (.lst us) ∧ RVs K μ H ys us ∧ xs.length + ys.length ≤ sizeLine ∧
  ∀ H', Ext μ H μ H' → RS K cm μ (S.set j (.lst (xs ++ ys))) H' → Q .non H'
theorem ms_extend : MtR X "list.extend" (rExtS X.K (cmX X)) := by
  intro pins s σ H x vs v us Q I rx rv h
  obtain ⟨μ, S, j, a, b, xs, ys, ws, R, rfl, rfl, hj, hS, hb, ry, hl, q⟩ := h
  obtain ⟨vs0, h0, l0, r0⟩ := R.ob j a _ hj hS
  refine mt_extend pins s σ H _ _ v us Q I rx rv ⟨a, b, vs0, ws, rfl, rfl, h0, hb, by rw [← r0.length, ← ry.length]; exact hl, ?_⟩
  exact q _ (Ext.put hj (.lst h0)) (R.put hj (.lst h0) ⟨_, upd_same, by rw [List.length_append]; exact hl, RVs.mono R (Ext.put hj (.lst h0)) (r0.append ry)⟩)
theorem sv_extend (ho : PE X o (E_ X W eo)) (ha : PE X e (L_ X W el))
    (hbase : attributeBase o "extend" X.env (eval o X.env) = eval o X.env := by rfl)
    (hfew : ((backTo cpos (starEach [e] X.env)).all (fun x => !x.1) && (backToKw cpos (keywordEach [] X.env)).all (fun x => x.1.isSome)
      && decide (([e] : List Expr).length + ([] : List Keyword).length + (if ([] : List Keyword).isEmpty then 0 else 1) < 30)) = true := by rfl)
    (hline : (apos.endLine == cpos.line) = true := by rfl) (hs : starEach [e] X.env = (false, eval e X.env) :: starEach [] X.env := by rfl) :
    PE X (.Call (.Attribute o "extend" apos) [e] [] cpos) (E_ X W (vExt eo el)) := by
  refine PE.imp (pe_bm PySem.F.plainAttrs_list PySem.F.slot_list_extend PySem.F.type_list_extend ms_extend ho (pa_cons ha pa_nil hs) hbase hfew hline hs (by rfl)) fun σ H Q h => ?_
  obtain ⟨μ, S, ρ, R, E, p⟩ := h
  refine ⟨μ, S, ρ, R, E, Post.step (P := fun μ H r => Post X.K (cmX X) μ H r Q (atσ W σ)) p (fun _ _ h => h) (fun h => h) fun x S1 μ1 H1 v E1 R1 rv p => ?_⟩
  split at p
  · rename_i j
    split at p
    · rename_i xs0 hS0
      cases rv with
      | @ref _ ad hj =>
        obtain ⟨vs0, h0, _, _⟩ := R1.ob j ad _ hj hS0
        refine ⟨.inl ⟨rfl, vs0, SqL.of h0⟩, μ1, S1, ρ, R1, E.mono R E1, PostL.step (P := fun μ H r => Post X.K (cmX X) μ H r Q (atσ W σ)) (Post.ext E1 p) (fun _ _ h => h) (fun h => h) fun m S2 μ2 H2 b E2 R2 rm p => ?_⟩
        split at p
        · rename_i xs hS
          split at p
          · rename_i hc
            obtain ⟨us, hb, _, r⟩ := rm.lst R2
            exact ⟨μ2, S2, j, ad, b, xs, m.1, us, R2, rfl, rfl, E2.pre _ _ hj, hS, hb, r, hc.1, fun H' E3 R3 => p μ2 H' _ (E2.trans E3) R3 .non⟩
          · exact p.elim
        · exact p.elim
    · exact p.elim
  · exact p.elim
/-! ### methods of texts -/
def rSm (K : PySem.W.Frag) (cm : CM) (f : Str → List PV → Option PV) : V → List V → Hp → VK → Prop := fun v ws H Q => ∃ μ S z ys r, RS K cm μ S H ∧ v = .str z ∧ SOk z ∧ RVs K μ H ys ws ∧ f z ys = some r ∧
  ∀ H' u, Ext μ H μ H' → RS K cm μ S H' → RV K μ H' r u → Q u H'
def rSmN (K : PySem.W.Frag) (cm : CM) (f : Str → List PV → Option (List PV)) : V → List V → Hp → VK → Prop := fun v ws H Q => ∃ μ S z ys zs, RS K cm μ S H ∧ v = .str z ∧ SOk z ∧ RVs K μ H ys ws ∧ f z ys = some zs ∧
  ∀ p us, H p = none → RVs K μ H zs us → zs.length ≤ sizeLine → Q (.ref p) (upd H p (.lst us))
def rSmL (K : PySem.W.Frag) (cm : CM) (f : Str → List PV → Option PV) : V → List V → Hp → VK → Prop := fun v ws H Q => ∃ μ S z ys a us r, RS K cm μ S H ∧ v = .str z ∧ SOk z ∧ ws = [.ref a] ∧ H a = some (.lst us) ∧ RVs K μ H ys us ∧ f z ys = some r ∧
  ∀ H' u, Ext μ H μ H' → RS K cm μ S H' → RV K μ H' r u → Q u H'
theorem vSm_imp {f : Str → List PV → Option PV} {σ : L2.St} {H : Hp} {Q : VK} (h : E_ X W (vSm f eo evs) σ H Q) : tBM X.K "str" (rSm X.K (cmX X) f) (E_ X W eo) (A_ X W evs) σ H Q := by
  obtain ⟨μ, S, ρ, R, E, p⟩ := h
  refine ⟨μ, S, ρ, R, E, Post.step (P := fun μ H r => Post X.K (cmX X) μ H r Q (atσ W σ)) p (fun _ _ h => h) (fun h => h) fun x S1 μ1 H1 v E1 R1 rv p => ?_⟩
  split at p
  · rename_i z
    cases rv with
    | str _ ok =>
      refine ⟨rfl, μ1, S1, ρ, R1, E.mono R E1, PostA.step (P := fun μ H r => Post X.K (cmX X) μ H r Q (atσ W σ)) (Post.ext E1 p) (fun _ _ h => h) (fun h => h) fun ys S2 μ2 H2 ws E2 R2 rvs p => ?_⟩
      cases hf : f z ys with
      | none => rw [hf] at p; exact p.elim
      | some r => rw [hf] at p; exact ⟨μ2, S2, z, ys, r, R2, rfl, ok, rvs, hf, fun H' u E3 R3 r3 => p μ2 H' u (E2.trans E3) R3 r3⟩
  · exact p.elim
theorem lSm_imp {f : Str → List PV → Option (List PV)} {σ : L2.St} {H : Hp} {Q : VK} (h : L_ X W (lSm f eo evs) σ H Q) : tBM X.K "str" (rSmN X.K (cmX X) f) (E_ X W eo) (A_ X W evs) σ H Q := by
  obtain ⟨μ, S, ρ, R, E, p⟩ := h
  refine ⟨μ, S, ρ, R, E, Post.step (P := fun μ H r => PostL X.K (cmX X) μ H r Q (atσ W σ)) p (fun _ _ h => h) (fun h => h) fun x S1 μ1 H1 v E1 R1 rv p => ?_⟩
  split at p
  · rename_i z
    cases rv with
    | str _ ok =>
      refine ⟨rfl, μ1, S1, ρ, R1, E.mono R E1, PostA.step (P := fun μ H r => PostL X.K (cmX X) μ H r Q (atσ W σ)) (PostL.ext E1 p) (fun _ _ h => h) (fun h => h) fun ys S2 μ2 H2 ws E2 R2 rvs p => ?_⟩
      cases hf : f z ys with
      | none => rw [hf] at p; exact p.elim
      | some zs => rw [hf] at p; exact ⟨μ2, S2, z, ys, zs, R2, rfl, ok, rvs, hf, fun q us hq r2 hl2 => fresh_L E2 R2 p hq r2 hl2⟩
  · exact p.elim
theorem vSmL_imp {f : Str → List PV → Option PV} {σ : L2.St} {H : Hp} {Q : VK} (h : E_ X W (vSmL f eo el) σ H Q) : tBM X.K "str" (rSmL X.K (cmX X) f) (E_ X W eo) (tCons (L_ X W el) tNil) σ H Q := by
  obtain ⟨μ, S, ρ, R, E, p⟩ := h
  refine ⟨μ, S, ρ, R, E, Post.step (P := fun μ H r => Post X.K (cmX X) μ H r Q (atσ W σ)) p (fun _ _ h => h) (fun h => h) fun x S1 μ1 H1 v E1 R1 rv p => ?_⟩
  split at p
  · rename_i z
    cases rv with
    | str _ ok =>
      refine ⟨rfl, μ1, S1, ρ, R1, E.mono R E1, PostL.step (P := fun μ H r => Post X.K (cmX X) μ H r Q (atσ W σ)) (Post.ext E1 p) (fun _ _ h => h) (fun h => h) fun m S2 μ2 H2 b E2 R2 rm p => ?_⟩
      obtain ⟨us, hb, _, r⟩ := rm.lst R2
      cases hf : f z m.1 with
      | none => rw [hf] at p; exact p.elim
      | some y => rw [hf] at p; exact ⟨μ2, S2, z, m.1, b, us, y, R2, rfl, ok, rfl, hb, r, hf, fun H' u E3 R3 r3 => p μ2 H' u (E2.trans E3) R3 r3⟩
  · exact p.elim
theorem sv_sm {name : Str} {id : String} {f : Str → List PV → Option PV} (slot : Slot "str" name id) (hty : typeOf (.builtin id) = pure (.type "method_descriptor")) (hm : MtR X id (rSm X.K (cmX X) f)) (ho : PE X o (E_ X W eo)) (ha : PA X (e :: es) (A_ X W evs))
    (hbase : attributeBase o name X.env (eval o X.env) = eval o X.env := by rfl)
    (hfew : ((backTo cpos (starEach (e :: es) X.env)).all (fun x => !x.1) && (backToKw cpos (keywordEach [] X.env)).all (fun x => x.1.isSome)
      && decide ((e :: es).length + ([] : List Keyword).length + (if ([] : List Keyword).isEmpty then 0 else 1) < 30)) = true := by rfl)
    (hline : (apos.endLine == cpos.line) = true := by rfl) (hs : starEach (e :: es) X.env = (false, eval e X.env) :: starEach es X.env := by rfl) (hplain : (backTo cpos (starEach es X.env)).any (·.1) = false := by rfl) :
    PE X (.Call (.Attribute o name apos) (e :: es) [] cpos) (E_ X W (vSm f eo evs)) :=
  PE.imp (pe_bm PySem.F.plainAttrs_str slot hty hm ho ha hbase hfew hline hs hplain) fun _ _ _ h => vSm_imp h
theorem sl_sm {name : Str} {id : String} {f : Str → List PV → Option (List PV)} (slot : Slot "str" name id) (hty : typeOf (.builtin id) = pure (.type "method_descriptor")) (hm : MtR X id (rSmN X.K (cmX X) f)) (ho : PE X o (E_ X W eo)) (ha : PA X (e :: es) (A_ X W evs))
    (hbase : attributeBase o name X.env (eval o X.env) = eval o X.env := by rfl)
    (hfew : ((backTo cpos (starEach (e :: es) X.env)).all (fun x => !x.1) && (backToKw cpos (keywordEach [] X.env)).all (fun x => x.1.isSome)
      && decide ((e :: es).length + ([] : List Keyword).length + (if ([] : List Keyword).isEmpty then 0 else 1) < 30)) = true := by rfl)
    (hline : (apos.endLine == cpos.line) = true := by rfl) (hs : starEach (e :: es) X.env = (false, eval e X.env) :: starEach es X.env := by rfl) (hplain : (backTo cpos (starEach es X.env)).any (·.1) = false := by rfl) :
    PE X (.Call (.Attribute o name apos) (e :: es) [] cpos) (L_ X W (lSm f eo evs)) :=
  PE.imp (pe_bm PySem.F.plainAttrs_str slot hty hm ho ha hbase hfew hline hs hplain) fun _ _ _ h => lSm_imp h
theorem sv_smL {name : Str} {id : String} {f : Str → List PV → Option PV} (slot : Slot "str" name id) (hty : typeOf (.builtin id) = pure (.type "method_descriptor")) (hm : MtR X id (rSmL X.K (cmX X) f)) (ho : PE X o (E_ X W eo)) (ha : PE X e (L_ X W el))
    (hbase : attributeBase o name X.env (eval o X.env) = eval o X.env := by rfl)
    (hfew : ((backTo cpos (starEach [e] X.env)).all (fun x => !x.1) && (backToKw cpos (keywordEach [] X.env)).all (fun x => x.1.isSome)
      && decide (([e] : List Expr).length + ([] : List Keyword).length + (if ([] : List Keyword).isEmpty then 0 else 1) < 30)) = true := by rfl)
    (hline : (apos.endLine == cpos.line) = true := by rfl) (hs : starEach [e] X.env = (false, eval e X.env) :: starEach [] X.env := by rfl) :
    PE X (.Call (.Attribute o name apos) [e] [] cpos) (E_ X W (vSmL f eo el)) :=
  PE.imp (pe_bm PySem.F.plainAttrs_str slot hty hm ho (pa_cons ha pa_nil hs) hbase hfew hline hs (by rfl)) fun _ _ _ h => vSmL_imp h
def vSm0 (f : Str → Option PV) (o : TV) : TV := fun ρ S => (o ρ S).bind fun x S => match x with
  | .str z => ofO (f z) S
  | _ => .bad
theorem asStr_ok {K : PySem.W.Frag} {μ : List Addr} {H : Hp} : ∀ {xs : List PV} {vs : List V} {bs : List Str}, RVs K μ H xs vs → asStr xs = some bs → vs = bs.map V.str
  | [], _, bs, .nil, h => by cases h; rfl
  | x :: xs, _, bs, .cons r t, h => by
    cases r with
    | str b hb =>
      simp only [asStr, Option.map_eq_some_iff] at h
      obtain ⟨cs, h1, rfl⟩ := h
      rw [asStr_ok t h1]; rfl
    | _ => simp [asStr] at h
theorem RVs.strs {K : PySem.W.Frag} {μ : List Addr} {H : Hp} : ∀ {ys : List Str}, (∀ y ∈ ys, SOk y) → RVs K μ H (ys.map PV.str) (ys.map V.str)
  | [], _ => .nil
  | y :: ys, h => .cons (.str y (h y (by simp))) (RVs.strs fun z hz => h z (by simp [hz]))
theorem ms_split : MtR X "str.split" (rSmN X.K (cmX X) mSplit) := by
  intro pins s σ H x vs v us Q I rx rv h
  obtain ⟨μ, S, z, ys, zs, R, rfl, ok, ry, hf, q⟩ := h
  unfold mSplit at hf
  split at hf
  · rename_i b
    split at hf
    · rename_i hc
      cases hf
      obtain ⟨w, rfl, r1⟩ := ry.one
      cases r1
      refine mt_split pins s σ H _ _ v us Q I rx rv ⟨z, b, rfl, rfl, by simpa using hc.1, hc.2.1, fun p hp => ?_⟩
      exact q p _ hp (RVs.strs hc.2.2.1) (by simpa using hc.2.2.2)
    · cases hf
  · cases hf
theorem ms_join : MtR X "str.join" (rSmL X.K (cmX X) mJoin) := by
  intro pins s σ H x vs v us Q I rx rv h
  obtain ⟨μ, S, z, ys, a, ws, r, R, rfl, ok, rfl, ha, ry, hf, q⟩ := h
  unfold mJoin at hf
  split at hf
  · rename_i bs hb
    split at hf
    · rename_i hc
      cases hf
      have e := asStr_ok ry hb
      subst e
      exact mt_join pins s σ H _ _ v us Q I rx rv ⟨z, a, bs, rfl, rfl, .inl (SqL.of ha), hc.1, q H _ Ext.refl R (.str _ hc.2)⟩
    · cases hf
  · cases hf
theorem ms_index : MtR X "str.index" (rSm X.K (cmX X) mIndex) := by
  intro pins s σ H x vs v us Q I rx rv h
  obtain ⟨μ, S, z, ys, r, R, rfl, ok, ry, hf, q⟩ := h
  unfold mIndex at hf
  split at hf
  · rename_i b
    split at hf
    · rename_i i rest hi
      cases hf
      obtain ⟨w, rfl, r1⟩ := ry.one
      cases r1
      exact mt_sindex pins s σ H _ _ v us Q I rx rv ⟨z, b, i, rest, rfl, rfl, hi, q H _ Ext.refl R (.int _)⟩
    · cases hf
  · cases hf
/-! ### {}, {k: v} -/
theorem sv_dic0 : PE X (.Dict [] [] pos) (E_ X W vDic0) := by
  refine PE.imp pe_dnewK fun σ H Q h => ?_
  obtain ⟨μ, S, ρ, R, E, p⟩ := h
  intro q hq
  refine p (μ ++ [q]) _ _ (Ext.grow hq) (R.grow hq ⟨[], upd_same, by decide, .nil⟩) (.ref ?_)
  rw [List.getElem?_append_right (by rw [R.len]; exact Nat.le_refl _), R.len, Nat.sub_self]; rfl
theorem sv_dic1 (ha : PE X a (E_ X W ea)) (hb : PE X b (E_ X W eb)) : PE X (.Dict [some a] [b] pos) (E_ X W (vDic1 ea eb)) := by
  refine PE.imp (pe_disp (pps_cons ha hb pps_nil) (by rfl) (by rfl) (by simp) (by simp)) fun σ H Q h => ?_
  obtain ⟨μ, S, ρ, R, E, p⟩ := h
  intro q hq
  have E0 : Ext μ H μ (upd H q (.dK [])) := Ext.fresh hq
  have R0 : RS X.K (cmX X) μ S (upd H q (.dK [])) := R.fresh hq
  refine ⟨μ, S, ρ, R0, E.mono R E0, Post.step (P := fun _ _ r => Post X.K (cmX X) μ H r Q (atσ W σ)) p (fun _ _ h => Post.ext E0 h) (fun h => h) fun k S1 μ1 H1 v E1 R1 rv p => ?_⟩
  refine ⟨μ1, S1, ρ, R1, (E.mono R E0).mono R0 E1, Post.step (P := fun _ _ r => Post X.K (cmX X) μ H r Q (atσ W σ)) p (fun _ _ h => Post.ext (E0.trans E1) h) (fun h => h) fun y S2 μ2 H2 w E2 R2 rw2 p => ?_⟩
  have hm : q ∉ μ := fun h => R.trk h hq
  have hm1 : q ∉ μ1 := fun z => by
    rcases E1.new q z with h | h
    · exact hm h
    · rw [upd_same] at h; cases h
  have h1 : H1 q = some (.dK []) := E1.kp _ _ upd_same hm
  have hm2 : q ∉ μ2 := fun z => by
    rcases E2.new q z with h | h
    · exact hm1 h
    · rw [h1] at h; cases h
  have h2 : H2 q = some (.dK []) := E2.kp _ _ h1 hm1
  have rk := rv.mono R1 E2
  refine ⟨h2, ?_⟩
  have up : Up2 μ2 H2 μ2 (upd H2 q (.dK (mergeK [] []))) := ⟨fun _ _ h => h, fun b vs hb => by
    rcases hb with hb | ⟨u, hb⟩
    · exact .inl (by rw [upd_ne]; exact hb; rintro rfl; rw [h2] at hb; cases hb)
    · exact .inr ⟨u, by rw [upd_ne]; exact hb; rintro rfl; rw [h2] at hb; cases hb⟩, fun b u vs hb => (by rw [upd_ne]; exact hb; rintro rfl; rw [h2] at hb; cases hb), fun b u hb => by rw [upd_ne]; exact hb; rintro rfl; rw [h2] at hb; cases hb⟩
  have fin : ∀ (key : Key), keyOf k = some key → v = kV key → ∃ kvs : List (Key × V), [(v, w)] = kvs.map (fun kv => (kV kv.1, kv.2)) ∧ kvs.length ≤ 15 ∧ Q (.ref q) (upd H2 q (.dK (mergeK [] kvs))) := fun key hk hv => by
    rw [hk] at p
    subst hv
    refine ⟨[(key, w)], rfl, by simp, ?_⟩
    have up : Up2 μ2 H2 (μ2 ++ [q]) (upd H2 q (.dK (mergeK [] [(key, w)]))) := ⟨fun i b h => by rw [List.getElem?_append_left (List.getElem?_eq_some_iff.mp h).1]; exact h, fun b vs hb => by
      rcases hb with hb | ⟨u, hb⟩
      · exact .inl (by rw [upd_ne]; exact hb; rintro rfl; rw [h2] at hb; cases hb)
      · exact .inr ⟨u, by rw [upd_ne]; exact hb; rintro rfl; rw [h2] at hb; cases hb⟩, fun b u vs hb => (by rw [upd_ne]; exact hb; rintro rfl; rw [h2] at hb; cases hb), fun b u hb => by rw [upd_ne]; exact hb; rintro rfl; rw [h2] at hb; cases hb⟩
    have ex : Ext μ H μ2 H2 := (E0.trans E1).trans E2
    refine p (μ2 ++ [q]) _ _ ⟨fun i b h => up.pre i b (E2.pre i b (E1.pre i b h)), fun b hb => ?_, fun b u h hbm => ?_, fun b u x h => by rw [upd_ne (ne_of_none h hq)]; exact ex.kz b u x h⟩ ⟨by simp [R2.len], ?_, fun i b o hi ho => ?_⟩ (.ref ?_)
    · rcases List.mem_append.mp hb with hb | hb
      · exact ex.new b hb
      · rw [List.mem_singleton.mp hb]; exact .inr hq
    · rw [upd_ne (ne_of_none h hq)]; exact ex.kp b u h hbm
    · rw [List.nodup_append]
      exact ⟨R2.nd, by simp, fun x hx y hy => by rw [List.mem_singleton.mp hy]; rintro rfl; exact hm2 hx⟩
    · by_cases hl : i < μ2.length
      · rw [List.getElem?_append_left hl] at hi
        rw [List.getElem?_append_left (by rw [← R2.len]; exact hl)] at ho
        exact (R2.ob i b o hi ho).mono2 up (by rw [upd_ne]; rintro rfl; exact hm2 (List.mem_of_getElem? hi))
      · have h1 := (List.getElem?_eq_some_iff.mp hi).1
        simp at h1
        have : i = μ2.length := by omega
        subst this
        rw [List.getElem?_append_right (Nat.le_refl _), Nat.sub_self] at hi
        rw [R2.len, List.getElem?_append_right (Nat.le_refl _), Nat.sub_self] at ho
        simp at hi ho
        subst hi ho
        exact ⟨[(key, w)], upd_same, by show 1 ≤ sizeLine; decide, .cons ⟨rfl, rw2.mono2 up⟩ .nil⟩
    · rw [List.getElem?_append_right (by rw [R2.len]; exact Nat.le_refl _), R2.len, Nat.sub_self]; rfl
  cases rk with
  | int i => exact fin (.inl i) rfl rfl
  | str z _ => exact fin (.inr z) rfl rfl
  | _ => exact p.elim
/-! ### constants of the module -/
end
end
/-! Fw9: lists compared; the defs of a text, all at once. -/
section
section
variable {X : Cx} {W : WX} {a b e o : Expr} {es : List Expr} {ea eb eo : TV} {la lb el : TL} {evs : TVs} {pos apos cpos : Pos}
/-! ### lists compared -/
def rEqLs (K : PySem.W.Frag) (cm : CM) (neg : Bool) : R2 := fun v w H Q => ∃ a b xs ys vs ws μ S k, RS K cm μ S H ∧ v = .ref a ∧ w = .ref b ∧ H a = some (.lst vs) ∧ H b = some (.lst ws) ∧ RVs K μ H xs vs ∧ RVs K μ H ys ws ∧ eqS S (.frl xs) (.frl ys) = some k ∧ Q (.bl (neg != k)) H
theorem eqL_core {neg : Bool} {op : CmpOp} (hu : X.A.units + 195 < cLine) (hop : (neg = false ∧ op = .Eq) ∨ (neg = true ∧ op = .NotEq)) : OpR X (compareOp op) (rEqLs X.K (cmX X) neg) := by
  intro pins s σ H x y v u Q I rx ry h
  obtain ⟨a, b, xs, ys, vs, ws, μ, S, k, R, rfl, rfl, h1, h2, r1, r2, he, q⟩ := h
  have he : (if (PV.frl xs).dat = true ∧ (PV.frl ys).dat = true ∧ (PV.frl xs).dep ≤ deepest then some ((PV.frl xs).eqv (PV.frl ys)) else emptyEq (PV.frl xs) (PV.frl ys)) = some k := he
  by_cases hc : (PV.frl xs).dat = true ∧ (PV.frl ys).dat = true ∧ (PV.frl xs).dep ≤ deepest
  · rw [if_pos hc] at he
    cases he
    simp only [PV.dat] at hc
    obtain ⟨p1, c1⟩ := RVs.dp r1 hc.1
    obtain ⟨p2, c2⟩ := RVs.dp r2 hc.2.1
    obtain ⟨as, w1⟩ := (Dp.lst (SqL.of h1) p1).reads I _ _ _ rx
    obtain ⟨bs, w2⟩ := (Dp.lst (SqL.of h2) p2).reads I _ _ _ ry
    have hd : X.A.units + min (PyData.list (PV.pds xs)).depth (PyData.list (PV.pds ys)).depth < cLine := by
      have := Nat.min_le_left (PyData.list (PV.pds xs)).depth (PyData.list (PV.pds ys)).depth
      have h3 := hc.2.2
      simp only [PyData.depth] at this ⊢
      rw [PV.deps_pd] at this ⊢
      simp only [PV.dep, deepest] at h3
      omega
    have e : PyData.eqv (.list (PV.pds xs)) (.list (PV.pds ys)) = PV.eqv (.frl xs) (.frl ys) := by simp only [PyData.eqv, PV.eqvs_pd _ _ hc.1 hc.2.1, PV.eqv]
    rcases hop with ⟨rfl, rfl⟩ | ⟨rfl, rfl⟩
    · exact SeqAt.compareEq_reads w1 w2 c1 c2 hd ⟨.bl _, H, I, by rw [e]; simp only [Bool.false_bne]; rfl, q⟩
    · exact SeqAt.compareNe_reads w1 w2 c1 c2 hd ⟨.bl _, H, I, by rw [e]; simp only [Bool.true_bne]; rfl, q⟩
  · rw [if_neg hc] at he
    simp only [emptyEq] at he
    split at he
    · rename_i hc
      cases he
      cases rx; cases ry
      obtain ⟨i1, v1, p1, _⟩ := I.list (SqL.of h1)
      obtain ⟨i2, v2, p2, _⟩ := I.list (SqL.of h2)
      have n1 : i1.toArray.size = xs.length := by rw [r1.length, v1.length]; simp
      have n2 : i2.toArray.size = ys.length := by rw [r2.length, v2.length]; simp
      by_cases hn : xs.length = ys.length
      · have h0 : i1.toArray.size = 0 := by
          simp only [Bool.or_eq_true, List.isEmpty_iff] at hc
          rw [n1]
          rcases hc with h | h
          · rw [h]; rfl
          · rw [hn, h]; rfl
        have e : ((List.range i1.toArray.size).all (fun _ => true)) = (xs.length == ys.length) := by rw [hn]; simp
        rcases hop with ⟨rfl, rfl⟩ | ⟨rfl, rfl⟩
        · exact SeqAt.RcAt.lists (e := fun _ => true) p1.isList p2.isList (by rw [n1, n2, hn]) (by omega) (fun j h1 h2 => by omega) X.prog X.w X.xe _ ⟨.bl _, H, I, by rw [e]; simp only [Bool.false_bne]; rfl, q⟩
        · exact SeqAt.RcNeAt.lists (e := fun _ => true) p1.isList p2.isList (by rw [n1, n2, hn]) (by omega) (fun j h1 h2 => by omega) X.prog X.w X.xe _ ⟨.bl _, H, I, by rw [e]; simp only [Bool.true_bne]; rfl, q⟩
      · have e : (xs.length == ys.length) = false := by simpa using hn
        rw [e] at q
        rcases hop with ⟨rfl, rfl⟩ | ⟨rfl, rfl⟩
        · exact SeqAt.RcAt.lists_lengths p1.isList p2.isList (by rw [n1, n2]; simpa using hn) (by omega) X.prog X.w X.xe _ ⟨.bl _, H, I, rfl, q⟩
        · exact SeqAt.RcNeAt.lists_lengths p1.isList p2.isList (by rw [n1, n2]; simpa using hn) (by omega) X.prog X.w X.xe _ ⟨.bl _, H, I, rfl, q⟩
    · cases he
theorem vEqL_imp {neg : Bool} {σ : L2.St} {H : Hp} {Q : VK} (h : E_ X W (vEqL neg la lb) σ H Q) : tOp (rEqLs X.K (cmX X) neg) (L_ X W la) (L_ X W lb) σ H Q := by
  obtain ⟨μ, S, ρ, R, E, p⟩ := h
  refine ⟨μ, S, ρ, R, E, PostL.step (P := fun μ H r => Post X.K (cmX X) μ H r Q (atσ W σ)) p (fun _ _ h => h) (fun h => h) fun l S1 μ1 H1 ad E1 R1 rl p => ?_⟩
  refine ⟨μ1, S1, ρ, R1, E.mono R E1, PostL.step (P := fun μ H r => Post X.K (cmX X) μ H r Q (atσ W σ)) (p.ext E1) (fun _ _ h => h) (fun h => h) fun m S2 μ2 H2 bd E2 R2 rm p => ?_⟩
  split at p
  · rename_i hc
    obtain ⟨vs, h1, l1, r1⟩ := rl.keep R1 R2 E2 hc
    obtain ⟨ws, h2, l2, r2⟩ := rm.lst R2
    split at p
    · rename_i k hk
      exact ⟨ad, bd, l.1, m.1, vs, ws, μ2, S2, k, R2, rfl, rfl, h1, h2, r1, r2, hk, p μ2 H2 _ E2 R2 (.bl _)⟩
    · exact p.elim
  · exact p.elim
theorem os_neL (hu : X.A.units + 195 < cLine) : OpR X (compareOp .NotEq) (rEqLs X.K (cmX X) true) := eqL_core hu (.inr ⟨rfl, rfl⟩)
theorem bBl_imp {ev : TV} {σ : L2.St} {H : Hp} {Q : Bool → Hp → Prop} (h : T_ X W (bBl ev) σ H Q) : E_ X W ev σ H fun x H' => ∃ k, x = .bl k ∧ Q k H' := by
  obtain ⟨μ, S, ρ, R, E, p⟩ := h
  refine ⟨μ, S, ρ, R, E, Post.step (P := fun μ H r => PostB X.K (cmX X) μ H r Q (atσ W σ)) p (fun _ _ h => h) (fun h => h) fun x S1 μ1 H1 v E1 R1 rv p => ?_⟩
  cases rv with
  | bl k => exact ⟨k, rfl, p μ1 H1 E1 R1⟩
  | _ => exact p.elim
theorem st_neL (hu : X.A.units + 195 < cLine) (ha : PE X a (L_ X W la)) (hb : PE X b (L_ X W lb)) (hm : behindInMarks .NotEq b = false) : PT X (.Compare a [.NotEq] [b] pos) (T_ X W (bBl (vEqL true la lb))) :=
  PT.imp (pt_cmpR (os_neL hu) ha hb hm) fun _ _ _ h => vEqL_imp (bBl_imp h)
end
/-! ### the defs of a text -/
/-- how many values -/
def VLen (es : TVs) (n : Nat) : Prop := ∀ ρ S xs S', es ρ S = .ok xs S' → xs.length = n
theorem vlen_nil : VLen vsNil 0 := fun ρ S xs S' h => by cases h; rfl
theorem vlen_cons {a : TV} {r : TVs} {n : Nat} (h : VLen r n) : VLen (vsCons a r) (n + 1) := fun ρ S xs S' e => by
  unfold vsCons at e
  cases h1 : a ρ S with
  | ok x S1 =>
    rw [h1] at e
    simp only [bind_ok] at e
    cases h2 : r ρ S1 with
    | ok ys S2 => rw [h2] at e; simp only [bind_ok] at e; cases e; simp [h _ _ _ _ h2]
    | exc _ _ => rw [h2] at e; cases e
    | bad => rw [h2] at e; cases e
  | exc _ _ => rw [h1] at e; cases e
  | bad => rw [h1] at e; cases e
theorem tgl_nil : ∀ (xs : List PV) (ρ ρ' : Env'), tgNil xs ρ = some ρ' → xs.length = 0 := fun xs ρ ρ' h => by
  cases xs with
  | nil => rfl
  | cons _ _ => cases h
theorem tgl_cons {t : Tgt} {r : List PV → Env' → Option Env'} {n : Nat} (hr : ∀ xs ρ ρ', r xs ρ = some ρ' → xs.length = n) : ∀ (xs : List PV) (ρ ρ' : Env'), tgCons t r xs ρ = some ρ' → xs.length = n + 1 := fun xs ρ ρ' h => by
  cases xs with
  | nil => cases h
  | cons x ys =>
    simp only [tgCons] at h
    cases h1 : t x ρ with
    | none => rw [h1] at h; cases h
    | some ρ1 => rw [h1] at h; simp [hr ys ρ1 ρ' h]
/-- the module's name x is a def that is worth F, down to n calls -/
def FnAt (P : Program) (w : World) (K : PySem.W.Frag) (mg : Str → Option Value) (base : Heap) (n : Nat) (x : Str) (ps : List Str) (F : FV) : Prop :=
  ∃ f fd, FnOk P w K mg base (L2.CX P w) n f fd ps (spF K (cmM P w mg) ps.length F) ∧ mg x = some (.ref f) ∧ PySem.W.keepIn K (.ref f) = true ∧ Binds K fd ps []
section
variable {X : Cx} {W : WX} {n : Nat} {x : Str} {ps : List Str} {F : FV} {p pos : Pos} {e : Expr} {es : List Expr} {evs : TVs}
theorem sv_callF (h : FnAt X.prog X.w X.K X.mg X.base n x ps F) (hr : Room n X.A) (hx : ∀ σ, PassesAt (L2.CX X.prog X.w) X σ (WE W σ)) (hg : Gl X x) (hn : VLen evs ps.length) (ha : PA X (e :: es) (A_ X W evs))
    (hdb : (x == ("__debug__" : Str)) = false := by decide) (he : starEach (e :: es) X.env = (false, eval e X.env) :: starEach es X.env := by rfl) (hpl : (backTo pos (starEach es X.env)).any (·.1) = false := by rfl) :
    PE X (.Call (.Name x p) (e :: es) [] pos) (E_ X W (vApp F evs)) := by
  obtain ⟨f, fd, hF, hm, hk, hb⟩ := h
  exact sv_call hF hr hg hm hk hb hx hn ha hdb he hpl
end
theorem hu_of' {n : Nat} {A : Around} (r : Room n A) : A.units + 195 < cLine := by have := r.un; omega
theorem hu_1 {n : Nat} {A : Around} (r : Room n A) : A.units + 1 < cLine := by have := r.un; omega
/-- no promise at all -/
theorem fnAt_bad {P : Program} {w : World} {K : PySem.W.Frag} {mg : Str → Option Value} {base : Heap} {n : Nat} {f : Addr} {fd : FuncData} {ps : List Str} : FnOk P w K mg base (L2.CX P w) n f fd ps (spF K (cmM P w mg) ps.length fun _ _ => .bad) where
  len := fun vs H Q E h => h.1
  run := fun A outer s H args us vs Q E _ _ _ _ h => by obtain ⟨_, _, _, _, _, _, p⟩ := h; exact p.elim
end
/-! Fw10: the head: what the top leaves, constants looked at, the law's end. -/
section
/-! ### a constant, looked at -/
/-! ### the law's end -/
theorem walk_ofE2 {l : PySem.W.OpenLaw} {n k : Nat} {q : Program} {loose : List Str} {XP : (Str → Option Value) → Heap → Prop} {YP : World → Heap → Prop} {d : DefRec} {x : Str}
    (hn : l.most = some n) (hn2 : n ≤ sizeLine) (hdf : d.params.defaults = []) (hr : Room k callerA)
    (F : ∀ (w : World) (mg : Str → Option Value) (fa : Addr) (h : Heap), YP w h → h.Ns mainGlobals mg → mg d.name = some (.ref fa) →
      ∃ (K : PySem.W.Frag) (fd : FuncData) (sp : Sp), K.In h ∧ (∀ (s : Shared) (u : Value), BindsTo s fd ⟨[u], []⟩ [(x, u)]) ∧
        (∀ (H : Hp) (a : Addr) (ns : List Int), ns.length ≤ n → Only H → SqL K H a (ns.map V.int) → sp [.ref a] H (fun v _ => v = .bl true) fun _ _ _ => False) ∧
        ∀ base : Heap, K.In base → base.Ns mainGlobals mg → FnOk l.prog w K mg base (L2.CX l.prog w) k fa fd [x] sp) :
    PySem.W.WalkO q loose XP YP l.row.toRowW d [] (fun f vs => PySem.call f vs) := by
  refine Att.attach_call hn hdf fun w s₀ s₁ mg mb fa o pm cd doc a vs ns G Y ho hd hcd hmg hobj hints hlen hg => ?_
  obtain ⟨K, fd, sp, KX, hb, hsp, hF⟩ := F w mg fa _ Y G.T.g hmg
  exact law_call KX G.T.g G.T.b G.T.builtins G.T.nolimit hg hobj hints (Nat.le_trans hlen hn2) hr hF hb (fun H hO hS => hsp H a ns hlen hO hS) fun H e s' h => by
    obtain ⟨_, _, _, _, _, _, _, _, _, _, _, _, q⟩ := h
    exact q
/-- a script of ints as data -/
theorem script_rv {K : PySem.W.Frag} {H : Hp} {a : Addr} {ns : List Int} (hO : Only H) (hS : SqL K H a (ns.map V.int)) (hl : ns.length ≤ 63) (μ : List Addr) : RV K μ H (.frl (ns.map PV.int)) (.ref a) := by
  refine .frl (vs := ns.map V.int) ?_ (by rw [List.length_map, sizeLine_eq]; omega) ?_
  · rcases hS with (h | h) | h
    · rcases hO a with q | ⟨o, xs, q⟩ <;> (rw [q] at h; cases h)
    · exact .inl h
    · exact .inr h
  · clear hS hl
    induction ns with
    | nil => exact .nil
    | cons n ns ih => exact .cons (.int n) ih
/-- the promise of the law, by its worth -/
theorem law_sp {K : PySem.W.Frag} {cm : CM} {F : FV} (h : ∀ ns : List Int, ns.length ≤ 63 → ∃ S, F [.frl (ns.map .int)] [] = .ok (.bl true) S) {H : Hp} {a : Addr} {ns : List Int} (hl : ns.length ≤ 63) (hO : Only H) (hS : SqL K H a (ns.map V.int)) :
    spF K cm 1 F [.ref a] H (fun v _ => v = .bl true) fun _ _ _ => False := by
  refine ⟨rfl, [], [], [.frl (ns.map .int)], ⟨rfl, List.nodup_nil, fun i a o h => by simp at h⟩, .cons (script_rv hO hS hl []) .nil, ?_⟩
  obtain ⟨S, e⟩ := h ns hl
  rw [e]
  intro μ' H' v _ _ r
  cases r
  rfl
theorem room230 : Room 230 callerA := ⟨rfl, by decide, by decide⟩
end
/-! Fw11: reckoning with worths: one step each, what is thrown away, loops. -/
section
section
variable {ρ : Env'} {S : Store} {a b c : TV} {ta tb tc : TB} {la lb : TL} {es : TVs} {s t : TSt} {i : Nat}
theorem e_app0 (F : FV) (ρ : Env') (S : Store) : vApp0 F ρ S = (match F [] S with
  | .ok v S => .ok v S
  | _ => .bad) := rfl
/-- the list that a value names -/
def getL (S : Store) (x : PV) : Option (List PV) := match x with
  | .ref j => match S[j]? with
    | some (.lst xs) => some xs
    | _ => none
  | _ => none
theorem getL_ref {S : Store} {j : Nat} {xs : List PV} (h : S[j]? = some (.lst xs)) : getL S (.ref j) = some xs := by simp only [getL, h]
def ofP {α : Type} (o : Option α) (S : Store) : Res α := match o with
  | some x => .ok x S
  | none => .bad
theorem ofP_some {α : Type} (x : α) (S : Store) : ofP (some x) S = .ok x S := rfl
theorem getL_num {S : Store} {x : PV} {xs : List PV} (h : getL S x = some xs) : x = .ref x.num ∧ S[x.num]? = some (.lst xs) := by
  unfold getL at h
  split at h
  · split at h
    · rename_i h1; cases h; exact ⟨rfl, h1⟩
    · cases h
  · cases h
theorem e_lval (e : TV) (ρ : Env') (S : Store) : lVal e ρ S = (e ρ S).bind fun x S => (ofP (getL S x) S).bind fun xs S => .ok (xs, some x.num) S := by
  unfold lVal
  cases h : e ρ S with
  | ok x S1 =>
    simp only [bind_ok]
    cases x with
    | ref j =>
      dsimp only [getL, PV.num]
      cases h2 : S1[j]? with
      | none => rfl
      | some o => cases o <;> rfl
    | _ => rfl
  | _ => rfl
theorem e_cat (a b : TL) (ρ : Env') (S : Store) : lCat a b ρ S = (a ρ S).bind fun l S => (b ρ S).bind fun m S => if lkOk l S ∧ l.1.length + m.1.length ≤ sizeLine then .ok (l.1 ++ m.1, none) S else .bad := rfl
theorem e_eqL (neg : Bool) (a b : TL) (ρ : Env') (S : Store) : vEqL neg a b ρ S = (a ρ S).bind fun l S => (b ρ S).bind fun m S =>
  if lkOk l S then match eqS S (.frl l.1) (.frl m.1) with
    | some k => .ok (.bl (neg != k)) S
    | none => .bad
  else .bad := rfl
theorem e_lm (f : List PV → List PV → Option (PV × List PV)) (o : TV) (es : TVs) (ρ : Env') (S : Store) : vLm f o es ρ S = (o ρ S).bind fun x S => (ofP (getL S x) S).bind fun _ S => (es ρ S).bind fun ys S => (ofP (getL S x) S).bind fun xs S => (ofP (f xs ys) S).bind fun q S => .ok q.1 (S.set x.num (.lst q.2)) := by
  unfold vLm
  cases h : o ρ S with
  | ok x S1 =>
    simp only [bind_ok]
    cases x with
    | ref j =>
      dsimp only [getL, PV.num]
      cases h2 : S1[j]? with
      | none => rfl
      | some ob =>
        cases ob with
        | lst zs =>
          dsimp only
          rw [ofP_some, bind_ok]
          cases h3 : es ρ S1 with
          | ok ys S2 =>
            simp only [bind_ok]
            cases h4 : S2[j]? with
            | none => rfl
            | some ob2 =>
              cases ob2 with
              | lst us =>
                dsimp only
                rw [ofP_some, bind_ok]
                cases f us ys <;> rfl
              | _ => rfl
          | _ => rfl
        | _ => rfl
    | _ => rfl
  | _ => rfl
theorem e_ext (o : TV) (l : TL) (ρ : Env') (S : Store) : vExt o l ρ S = (o ρ S).bind fun x S => (ofP (getL S x) S).bind fun _ S => (l ρ S).bind fun m S => (ofP (getL S x) S).bind fun xs S =>
    if xs.length + m.1.length ≤ sizeLine ∧ m.2 ≠ some x.num then .ok .non (S.set x.num (.lst (xs ++ m.1))) else .bad := by
  unfold vExt
  cases h : o ρ S with
  | ok x S1 =>
    simp only [bind_ok]
    cases x with
    | ref j =>
      dsimp only [getL, PV.num]
      cases h2 : S1[j]? with
      | none => rfl
      | some ob =>
        cases ob with
        | lst zs =>
          dsimp only
          rw [ofP_some, bind_ok]
          cases h3 : l ρ S1 with
          | ok ys S2 =>
            simp only [bind_ok]
            cases h4 : S2[j]? with
            | none => rfl
            | some ob2 => cases ob2 <;> rfl
          | _ => rfl
        | _ => rfl
    | _ => rfl
  | _ => rfl
/-! ### statements -/
end
/-! ### what a def gives back -/
theorem fnV_eq (np nl : Nat) (b : TSt) (args : List PV) (S : Store) (h : args.length = np) : fnV np nl b args S = fin S (b (args.map some ++ List.replicate (nl - np) none) S) := by
  unfold fnV fin; rw [if_pos h]; all_goals (cases b (args.map some ++ List.replicate (nl - np) none) S <;> rfl)
/-! ### data lie low -/
mutual
theorem low_dat (n : Nat) : ∀ x : PV, x.dat = true → x.low n = true
  | .non, _ => rfl
  | .bl _, _ => rfl
  | .int _, _ => rfl
  | .str _, _ => rfl
  | .tup xs, h => lows_dat n xs h
  | .frl xs, h => lows_dat n xs h
  | .ref _, h => by simp [PV.dat] at h
theorem lows_dat (n : Nat) : ∀ xs : List PV, PV.dats xs = true → PV.lows n xs = true
  | [], _ => rfl
  | x :: xs, h => by
    simp only [PV.dats, Bool.and_eq_true] at h
    simp only [PV.lows, low_dat n x h.1, lows_dat n xs h.2, Bool.and_self]
end
mutual
theorem low_mono {n m : Nat} (h : n ≤ m) : ∀ x : PV, x.low n = true → x.low m = true
  | .non, _ => rfl
  | .bl _, _ => rfl
  | .int _, _ => rfl
  | .str _, _ => rfl
  | .tup xs, e => lows_mono h xs e
  | .frl xs, e => lows_mono h xs e
  | .ref _, e => by simp [PV.low] at e ⊢; omega
theorem lows_mono {n m : Nat} (h : n ≤ m) : ∀ xs : List PV, PV.lows n xs = true → PV.lows m xs = true
  | [], _ => rfl
  | x :: xs, e => by
    simp only [PV.lows, Bool.and_eq_true] at e
    simp only [PV.lows, low_mono h x e.1, lows_mono h xs e.2, Bool.and_self]
end
/-! ### loops -/
section
variable {tg : Tgt} {b : TSt} {l : LI} {c : TB} {el : TV}
/-- how a turn may end -/
def TurnOk (o : SR) (N : Env' → Store → Prop) (P : SR → Prop) : Prop := match o with
  | .nx ρ S => N ρ S
  | .cnt ρ S => N ρ S
  | .brk ρ S => P (.nx ρ S)
  | .bad => P .bad
  | o => P o
theorem forL_rule (I : List PV → Env' → Store → Prop) (P : SR → Prop) {xs : List PV} {ρ : Env'} {S : Store} (h0 : I xs ρ S)
    (step : ∀ x r ρ S, I (x :: r) ρ S → lkI l S ∧ ∃ ρ1, tg x ρ = some ρ1 ∧ TurnOk (b ρ1 S) (I r) P) (done : ∀ ρ S, I [] ρ S → lkI l S ∧ P (.nx ρ S)) : P (forL tg b l xs ρ S) := by
  induction xs generalizing ρ S with
  | nil =>
    obtain ⟨h1, h2⟩ := done ρ S h0
    unfold forL; rw [if_pos h1]; exact h2
  | cons x r ih =>
    obtain ⟨h1, ρ1, h2, h3⟩ := step x r ρ S h0
    unfold forL
    rw [if_pos h1, h2]
    dsimp only
    unfold TurnOk at h3
    cases hb : b ρ1 S with
    | nx ρ' S' => rw [hb] at h3; exact ih h3
    | cnt ρ' S' => rw [hb] at h3; exact ih h3
    | brk ρ' S' => rw [hb] at h3; exact h3
    | ret v S' => rw [hb] at h3; exact h3
    | exc e ρ' S' => rw [hb] at h3; exact h3
    | bad => rw [hb] at h3; exact h3
theorem compL_rule (I : List PV → List PV → Store → Prop) (P : Res LL → Prop) {ρ : Env'} {xs acc : List PV} {S : Store} (h0 : I xs acc S)
    (step : ∀ x r acc S, I (x :: r) acc S → lkI l S ∧ ∃ ρ1, tg x ρ = some ρ1 ∧ ∃ k S1, c ρ1 S = .ok k S1 ∧ (k = true → ∃ y S2, el ρ1 S1 = .ok y S2 ∧ I r (acc ++ [y]) S2) ∧ (k = false → I r acc S1)) (done : ∀ acc S, I [] acc S → lkI l S ∧ P (.ok (acc, none) S)) : P (compL tg c el ρ l xs acc S) := by
  induction xs generalizing acc S with
  | nil =>
    obtain ⟨h1, h2⟩ := done acc S h0
    unfold compL; rw [if_pos h1]; exact h2
  | cons x r ih =>
    obtain ⟨h1, ρ1, h2, k, S1, h3, h4, h5⟩ := step x r acc S h0
    unfold compL
    rw [if_pos h1, h2]
    dsimp only
    rw [h3]
    cases k with
    | true =>
      obtain ⟨y, S2, h6, h7⟩ := h4 rfl
      dsimp only
      rw [h6]
      exact ih h7
    | false => exact ih (h5 rfl)
/-- a comprehension that changes nothing -/
theorem compL_pure {ρ : Env'} {S : Store} (p : PV → Bool) (f : PV → PV) (lk : lkI l S) : ∀ (xs acc : List PV), (∀ x ∈ xs, ∃ ρ1, tg x ρ = some ρ1 ∧ c ρ1 S = .ok (p x) S ∧ (p x = true → el ρ1 S = .ok (f x) S)) →
    compL tg c el ρ l xs acc S = .ok (acc ++ (xs.filter p).map f, none) S
  | [], acc, _ => by unfold compL; rw [if_pos lk]; simp
  | x :: r, acc, h => by
    obtain ⟨ρ1, h1, h2, h3⟩ := h x (by simp)
    unfold compL
    rw [if_pos lk, h1]
    dsimp only
    rw [h2]
    cases hp : p x with
    | true =>
      dsimp only
      rw [h3 hp]
      dsimp only
      rw [compL_pure p f lk r _ fun y hy => h y (by simp [hy])]
      simp [hp]
    | false =>
      dsimp only
      rw [compL_pure p f lk r _ fun y hy => h y (by simp [hy])]
      simp [hp]
theorem while_rule {c : TB} {b : TSt} (I : Nat → Env' → Store → Prop) (P : SR → Prop) (step : ∀ m ρ S, I m ρ S → ∃ k S1, c ρ S = .ok k S1 ∧ (k = false → P (.nx ρ S1)) ∧ (k = true → TurnOk (b ρ S1) (fun ρ' S' => ∃ m', m' < m ∧ I m' ρ' S') P)) :
    ∀ (m : Nat) (ρ : Env') (S : Store), I m ρ S → P (sWhile c b ρ S) := by
  intro m
  induction m using Nat.strongRecOn with
  | ind m ih =>
    intro ρ S h
    obtain ⟨k, S1, h1, h2, h3⟩ := step m ρ S h
    rw [sWhile_eq, h1]
    simp only [sr_ok]
    cases k with
    | false => rw [if_neg (by decide)]; exact h2 rfl
    | true =>
      rw [if_pos rfl]
      have h3 := h3 rfl
      unfold TurnOk at h3
      cases hb : b ρ S1 with
      | nx ρ' S' => rw [hb] at h3; obtain ⟨m', hm, hi⟩ := h3; exact ih m' hm ρ' S' hi
      | cnt ρ' S' => rw [hb] at h3; obtain ⟨m', hm, hi⟩ := h3; exact ih m' hm ρ' S' hi
      | brk ρ' S' => rw [hb] at h3; exact h3
      | ret v S' => rw [hb] at h3; exact h3
      | exc e ρ' S' => rw [hb] at h3; exact h3
      | bad => rw [hb] at h3; exact h3
end
theorem x_addS (a b : Str) (S : Store) : oAdd (.str a) (.str b) S = if a.length + b.length ≤ sizeLine then some (.str (a ++ b)) else none := rfl
theorem x_mul (a b : Int) (S : Store) : oMul (.int a) (.int b) S = if (-(2 ^ 64) < a ∧ a < 2 ^ 64) ∨ (-(2 ^ 64) < b ∧ b < 2 ^ 64) then some (.int (a * b)) else none := rfl
theorem x_div (a b : Int) (S : Store) : oDiv (.int a) (.int b) S = if 0 < b ∧ b < 1073741824 then some (.int (a / b)) else none := rfl
theorem x_mod (a b : Int) (S : Store) : oMod (.int a) (.int b) S = if 0 < b then some (.int (a % b)) else none := rfl
theorem x_pow (a b : Int) (S : Store) : oPow (.int a) (.int b) S = if 0 ≤ b ∧ b ≤ 1000000 ∧ a.natAbs < 2 ^ 64 then some (.int (a ^ b.toNat)) else none := rfl
theorem x_idxF (xs : List PV) (k : Int) (S : Store) : oIdx (.frl xs) (.int k) S = atI xs k := rfl
theorem x_idxS (z : Str) (k : Int) (S : Store) : oIdx (.str z) (.int k) S = (atI z.cps.toList k).map fun c => .str ⟨#[c]⟩ := rfl
theorem deref_ref {S : Store} {j : Nat} {xs : List PV} (h : S[j]? = some (.lst xs)) : deref S (.ref j) = .frl xs := by simp only [deref, h]
theorem x_idxR {S : Store} {j : Nat} {xs : List PV} (h : S[j]? = some (.lst xs)) (k : Int) : oIdx (.ref j) (.int k) S = atI xs k := by simp only [oIdx, deref_ref h]
theorem x_lenR {S : Store} {j : Nat} {xs : List PV} (h : S[j]? = some (.lst xs)) : fLen [.ref j] S = some (.int xs.length) := by simp only [fLen, deref_ref h]
theorem x_tupR {S : Store} {j : Nat} {xs : List PV} (h : S[j]? = some (.lst xs)) : fTup [.ref j] S = some (.tup xs) := by simp only [fTup, deref_ref h]
theorem x_listR {S : Store} {j : Nat} {xs : List PV} (h : S[j]? = some (.lst xs)) : fList [.ref j] S = some xs := by simp only [fList, deref_ref h]
theorem x_append (xs : List PV) (y : PV) : mAppend xs [y] = if xs.length < sizeLine then some (.non, xs ++ [y]) else none := rfl
theorem x_eq (x y : PV) (S : Store) : oEq x y S = (eqS S x y).map .bl := rfl
theorem x_ne (x y : PV) (S : Store) : oNe x y S = (eqS S x y).map fun b => .bl (!b) := rfl
theorem x_in (x y : PV) (S : Store) : oIn x y S = (inS S x y).map .bl := rfl
theorem x_notIn (x y : PV) (S : Store) : oNotIn x y S = (inS S x y).map fun b => .bl (!b) := rfl
theorem eqS_str (S : Store) (a b : Str) : eqS S (.str a) (.str b) = some (a == b) := eqS_dat rfl rfl (Nat.zero_le _)
theorem eqS_int (S : Store) (a b : Int) : eqS S (.int a) (.int b) = some (a == b) := eqS_dat rfl rfl (Nat.zero_le _)
theorem eqS_bl (S : Store) (a b : Bool) : eqS S (.bl a) (.bl b) = some (a == b) := eqS_dat rfl rfl (Nat.zero_le _)
theorem at0 {α : Type} (x : α) (r : List α) : atI (x :: r) 0 = some x := atI_nat (j := 0) rfl
theorem at1 {α : Type} (x y : α) (r : List α) : atI (x :: y :: r) 1 = some y := atI_nat (j := 1) rfl
theorem at2 {α : Type} (x y z : α) (r : List α) : atI (x :: y :: z :: r) 2 = some z := atI_nat (j := 2) rfl
theorem at3 {α : Type} (x y z u : α) (r : List α) : atI (x :: y :: z :: u :: r) 3 = some u := atI_nat (j := 3) rfl
/-- an index that lies in the list -/
theorem atI_in {α : Type} {xs : List α} {k : Int} (h0 : 0 ≤ k) (h1 : k < xs.length) : ∃ x, atI xs k = some x ∧ xs[k.toNat]? = some x := by
  have hk : k.toNat < xs.length := by omega
  refine ⟨xs[k.toNat], ?_, List.getElem?_eq_getElem hk⟩
  unfold atI ixN
  rw [if_pos h0, if_pos h1]
  exact List.getElem?_eq_getElem hk
theorem sizeLine_ge {n : Nat} (h : n ≤ 16777216) : n ≤ sizeLine := by rw [sizeLine_eq]; exact h
end
/-! Fw12: what a step must lead to, rule by rule. -/
section
def WS (r : SR) (Q : SR → Prop) : Prop := Q r
def IsB (x : PV) (Q : Bool → Prop) : Prop := match x with
  | .bl b => Q b
  | _ => False
def IsI (x : PV) (Q : Int → Prop) : Prop := match x with
  | .int b => Q b
  | _ => False
def IsS (x : PV) (Q : Str → Prop) : Prop := match x with
  | .str b => Q b
  | _ => False
theorem Br.tt {A B : Prop} (a : A) : Br true A B := ⟨fun _ => a, fun h => Bool.noConfusion h⟩
theorem Br.ff {A B : Prop} (a : B) : Br false A B := ⟨fun h => Bool.noConfusion h, fun _ => a⟩
theorem Br.nf {A B : Prop} (a : A) : Br (!false) A B := .tt a
theorem Br.nt {A B : Prop} (a : B) : Br (!true) A B := .ff a
theorem Br.of_tt {x : Bool} {A B : Prop} (h : x = true) (a : A) : Br x A B := by subst h; exact .tt a
theorem Br.of_ff {x : Bool} {A B : Prop} (h : x = false) (a : B) : Br x A B := by subst h; exact .ff a
theorem Br.dec {p : Prop} [Decidable p] {A B : Prop} (a : p → A) (b : ¬ p → B) : Br (decide p) A B := ⟨fun h => a (of_decide_eq_true h), fun h => b (of_decide_eq_false h)⟩
section
variable {α β : Type} {Q : α → Store → Prop} {E : PX → Store → Prop} {r : Res β} {S : Store} {ρ : Env'}
theorem W_bind {f : β → Store → Res α} (h : W r (fun a S => W (f a S) Q E) E) : W (r.bind f) Q E := by
  cases r with
  | ok a S => exact h
  | exc e S => exact h
  | bad => exact h
theorem WS_sr {Q : SR → Prop} {f : β → Store → SR} (h : W r (fun a S => WS (f a S) Q) (fun e S => Q (.exc e ρ S))) : WS (r.sr ρ f) Q := by
  cases r with
  | ok a S => exact h
  | exc e S => exact h
  | bad => exact h.elim
theorem W_mono {Q' : β → Store → Prop} {Q : β → Store → Prop} {E E' : PX → Store → Prop} (h : W r Q' E') (q : ∀ a S, Q' a S → Q a S) (e : ∀ x S, E' x S → E x S) : W r Q E := by
  cases r with
  | ok a S => exact q _ _ h
  | exc e' S => exact e _ _ h
  | bad => exact h
end
theorem W_ofO {o : Option PV} {S : Store} {Q : PV → Store → Prop} {E : PX → Store → Prop} (h : Op o fun z => Q z S) : W (ofO o S) Q E := by
  cases o with
  | some x => exact h
  | none => exact h
theorem W_ofB {o : Option Bool} {S : Store} {Q : Bool → Store → Prop} {E : PX → Store → Prop} (h : Op o fun z => Q z S) : W (ofB o S) Q E := by
  cases o with
  | some x => exact h
  | none => exact h
theorem W_ofP {α : Type} {o : Option α} {S : Store} {Q : α → Store → Prop} {E : PX → Store → Prop} (h : Op o fun z => Q z S) : W (ofP o S) Q E := by
  cases o with
  | some x => exact h
  | none => exact h
def LNew (l : LL) (S : Store) (Q : PV → Store → Prop) : Prop := match l.2 with
  | none => Q (.ref S.length) (S ++ [.lst l.1])
  | some j => Q (.ref j) S
def SlcR (x : PV) (l h : Option Int) (S : Store) (Q : PV → Store → Prop) : Prop := match deref S x with
  | .tup xs => Q (.tup (cutL xs l h)) S
  | .str z => Q (.str (strCut z l h)) S
  | .frl xs => Q (.ref S.length) (S ++ [.lst (cutL xs l h)])
  | _ => False
def LSlcR (x : PV) (l h : Option Int) (S : Store) (Q : LL → Store → Prop) : Prop := match deref S x with
  | .frl xs => Q (cutL xs l h, none) S
  | _ => False
def RngR (xs : List PV) (Q : LI → Prop) : Prop := match xs with
  | [.int j] => (-(2 ^ 62) ≤ j ∧ j ≤ 16777216) ∧ Q (rangeL 0 j.toNat, none)
  | [.int i, .int j] => (-(2 ^ 62) ≤ i ∧ i < 2 ^ 62 ∧ -(2 ^ 62) ≤ j ∧ j < 2 ^ 62 ∧ j - i ≤ 16777216) ∧ Q (rangeL i (j - i).toNat, none)
  | _ => False
inductive GetR : Env' → Nat → PV → Prop
  | zero {x : PV} {ρ : Env'} : GetR (some x :: ρ) 0 x
  | succ {a : Option PV} {ρ : Env'} {i : Nat} {x : PV} (h : GetR ρ i x) : GetR (a :: ρ) (i + 1) x
theorem GetR.eq {ρ : Env'} {i : Nat} {x : PV} (h : GetR ρ i x) : ρ[i]? = some (some x) := by
  induction h with
  | zero => rfl
  | succ h ih => exact ih
/-! ### expressions -/
section
variable {Q : PV → Store → Prop} {QB : Bool → Store → Prop} {QL : LL → Store → Prop} {QA : List PV → Store → Prop} {QO : Option Int → Store → Prop} {E : PX → Store → Prop} {ρ : Env'} {S : Store} {a b c e o : TV} {ta tb : TB} {la lb l : TL} {es : TVs} {lo hi : TOv}
theorem w_var {i : Nat} {x : PV} (h : ρ[i]? = some (some x)) (q : Q x S) : W (vVar i ρ S) Q E := by unfold vVar; rw [h]; exact q
theorem w_get {i : Nat} {x : PV} (h : GetR ρ i x) (q : Q x S) : W (vVar i ρ S) Q E := w_var h.eq q
theorem w_c {x : PV} (q : Q x S) : W (vC x ρ S) Q E := q
theorem w_str {x : Str} (h : SOk x) (q : Q (.str x) S) : W (vStr x ρ S) Q E := by unfold vStr; rw [if_pos h]; exact q
theorem w_bin {f : PV → PV → Store → Option PV} (h : W (a ρ S) (fun x S => W (b ρ S) (fun y S => Op (f x y S) fun z => Q z S) E) E) : W (vBin f a b ρ S) Q E :=
  W_bind (W_mono h (fun _ _ h => W_bind (W_mono h (fun _ _ h => W_ofO h) fun _ _ h => h)) fun _ _ h => h)
theorem w_un {f : PV → Store → Option PV} (h : W (a ρ S) (fun x S => Op (f x S) fun z => Q z S) E) : W (vUn f a ρ S) Q E :=
  W_bind (W_mono h (fun _ _ h => W_ofO h) fun _ _ h => h)
theorem w_chn {f g : PV → PV → Store → Option PV} (h : W (a ρ S) (fun x S => W (b ρ S) (fun y S => Op (f x y S) fun u => IsB u fun k => Br k (W (c ρ S) (fun z S => Op (g y z S) fun u => Q u S) E) (Q (.bl false) S)) E) E) : W (vChn f g a b c ρ S) Q E := by
  refine W_bind (W_mono h (fun x S h => W_bind (W_mono h (fun y S h => ?_) fun _ _ h => h)) fun _ _ h => h)
  cases hf : f x y S with
  | none => rw [hf] at h; exact h.elim
  | some u =>
    rw [hf] at h
    cases u with
    | bl k =>
      cases k with
      | true => exact W_bind (W_mono (h.1 rfl) (fun _ _ h => W_ofO h) fun _ _ h => h)
      | false => exact h.2 rfl
    | _ => exact h.elim
theorem w_bV (h : W (e ρ S) (fun x S => Op (truth x S) fun k => QB k S) E) : W (bV e ρ S) QB E := W_bind (W_mono h (fun _ _ h => W_ofB h) fun _ _ h => h)
theorem w_bBl (h : W (e ρ S) (fun x S => IsB x fun k => QB k S) E) : W (bBl e ρ S) QB E := by
  refine W_bind (W_mono h (fun x S h => ?_) fun _ _ h => h)
  cases x with
  | bl k => exact h
  | _ => exact h.elim
theorem w_bAnd (h : W (ta ρ S) (fun x S => Br x (W (tb ρ S) QB E) (QB false S)) E) : W (bAnd ta tb ρ S) QB E := by
  refine W_bind (W_mono h (fun x S h => ?_) fun _ _ h => h)
  cases x with
  | true => exact h.1 rfl
  | false => exact h.2 rfl
theorem w_bOr (h : W (ta ρ S) (fun x S => Br x (QB true S) (W (tb ρ S) QB E)) E) : W (bOr ta tb ρ S) QB E := by
  refine W_bind (W_mono h (fun x S h => ?_) fun _ _ h => h)
  cases x with
  | true => exact h.1 rfl
  | false => exact h.2 rfl
theorem w_bNot (h : W (ta ρ S) (fun x S => QB (!x) S) E) : W (bNot ta ρ S) QB E := W_bind h
theorem w_bYes (h : QB true S) : W (bYes ρ S) QB E := h
theorem w_vAnd (h : W (a ρ S) (fun x S => IsB x fun k => Br k (W (b ρ S) Q E) (Q (.bl false) S)) E) : W (vAnd a b ρ S) Q E := by
  refine W_bind (W_mono h (fun x S h => ?_) fun _ _ h => h)
  cases x with
  | bl k =>
    cases k with
    | true => exact h.1 rfl
    | false => exact h.2 rfl
  | _ => exact h.elim
theorem w_vOr (h : W (a ρ S) (fun x S => IsB x fun k => Br k (Q (.bl true) S) (W (b ρ S) Q E)) E) : W (vOr a b ρ S) Q E := by
  refine W_bind (W_mono h (fun x S h => ?_) fun _ _ h => h)
  cases x with
  | bl k =>
    cases k with
    | true => exact h.1 rfl
    | false => exact h.2 rfl
  | _ => exact h.elim
theorem w_vNot (h : W (a ρ S) (fun x S => IsB x fun k => Q (.bl (!k)) S) E) : W (vNot a ρ S) Q E := by
  refine W_bind (W_mono h (fun x S h => ?_) fun _ _ h => h)
  cases x with
  | bl k => exact h
  | _ => exact h.elim
theorem w_vIf (h : W (ta ρ S) (fun x S => Br x (W (a ρ S) Q E) (W (b ρ S) Q E)) E) : W (vIf ta a b ρ S) Q E := by
  refine W_bind (W_mono h (fun x S h => ?_) fun _ _ h => h)
  cases x with
  | true => exact h.1 rfl
  | false => exact h.2 rfl
theorem w_nil (h : QA [] S) : W (vsNil ρ S) QA E := h
theorem w_cons (h : W (a ρ S) (fun x S => W (es ρ S) (fun xs S => QA (x :: xs) S) E) E) : W (vsCons a es ρ S) QA E :=
  W_bind (W_mono h (fun _ _ h => W_bind h) fun _ _ h => h)
theorem w_tup (h : W (es ρ S) (fun xs S => xs.length ≤ sizeLine ∧ Q (.tup xs) S) E) : W (vTup es ρ S) Q E :=
  W_bind (W_mono h (fun x S h => by rw [if_pos h.1]; exact h.2) fun _ _ h => h)
theorem w_disp (h : W (es ρ S) (fun xs S => xs.length ≤ sizeLine ∧ QL (xs, none) S) E) : W (lDisp es ρ S) QL E :=
  W_bind (W_mono h (fun x S h => by rw [if_pos h.1]; exact h.2) fun _ _ h => h)
theorem w_new (h : W (l ρ S) (fun l S => LNew l S Q) E) : W (vNew l ρ S) Q E := by
  refine W_bind (W_mono h (fun l S h => ?_) fun _ _ h => h)
  obtain ⟨xs, n⟩ := l
  cases n <;> exact h
theorem lnew {xs : List PV} (h : Q (.ref S.length) (S ++ [.lst xs])) : LNew (xs, none) S Q := h
theorem w_oNone (h : QO none S) : W (oNone ρ S) QO E := h
theorem w_oSome (h : W (e ρ S) (fun x S => IsI x fun i => QO (some i) S) E) : W (oSome e ρ S) QO E := by
  refine W_bind (W_mono h (fun x S h => ?_) fun _ _ h => h)
  cases x with
  | int k => exact h
  | _ => exact h.elim
theorem w_slc (h : W (a ρ S) (fun x S => W (lo ρ S) (fun l S => W (hi ρ S) (fun h S => SlcR x l h S Q) E) E) E) : W (vSlc a lo hi ρ S) Q E := by
  refine W_bind (W_mono h (fun x S h => W_bind (W_mono h (fun l S h => W_bind (W_mono h (fun h S k => ?_) fun _ _ h => h)) fun _ _ h => h)) fun _ _ h => h)
  unfold SlcR at k
  split at k <;> simp_all only [W]
theorem w_lslc (h : W (a ρ S) (fun x S => W (lo ρ S) (fun l S => W (hi ρ S) (fun h S => LSlcR x l h S QL) E) E) E) : W (lSlc a lo hi ρ S) QL E := by
  refine W_bind (W_mono h (fun x S h => W_bind (W_mono h (fun l S h => W_bind (W_mono h (fun h S k => ?_) fun _ _ h => h)) fun _ _ h => h)) fun _ _ h => h)
  unfold LSlcR at k
  split at k <;> simp_all only [W]
theorem slcT {xs : List PV} {l h : Option Int} (q : Q (.tup (cutL xs l h)) S) : SlcR (.tup xs) l h S Q := q
theorem slcS {z : Str} {l h : Option Int} (q : Q (.str (strCut z l h)) S) : SlcR (.str z) l h S Q := q
theorem w_call {f : List PV → Store → Option PV} (h : W (es ρ S) (fun xs S => Op (f xs S) fun u => Q u S) E) : W (vCall f es ρ S) Q E := W_bind (W_mono h (fun _ _ h => W_ofO h) fun _ _ h => h)
theorem w_callL {f : List PV → Option PV} (h : W (l ρ S) (fun l S => Op (f l.1) fun u => Q u S) E) : W (vCallL f l ρ S) Q E := W_bind (W_mono h (fun _ _ h => W_ofO h) fun _ _ h => h)
theorem w_lcallL {f : List PV → Option (List PV)} (h : W (l ρ S) (fun l S => Op (f l.1) fun u => QL (u, none) S) E) : W (lCallL f l ρ S) QL E := by
  refine W_bind (W_mono h (fun l S h => ?_) fun _ _ h => h)
  cases hf : f l.1 with
  | none => rw [hf] at h; exact h.elim
  | some u => rw [hf] at h; exact h
theorem w_lcallN {f : List PV → Store → Option (List PV)} (h : W (es ρ S) (fun xs S => Op (f xs S) fun u => QL (u, none) S) E) : W (lCallN f es ρ S) QL E := by
  refine W_bind (W_mono h (fun l S h => ?_) fun _ _ h => h)
  cases hf : f l S with
  | none => rw [hf] at h; exact h.elim
  | some u => rw [hf] at h; exact h
theorem w_isi {T : String} (h : W (a ρ S) (fun x S => Op (tyN S x) fun t => Q (.bl (isI t T)) S) E) : W (vIsi T a ρ S) Q E := by
  refine W_bind (W_mono h (fun x S h => W_ofO ?_) fun _ _ h => h)
  cases hf : tyN S x with
  | none => rw [hf] at h; exact h.elim
  | some u => rw [hf] at h; exact h
theorem w_app {F : FV} (h : W (es ρ S) (fun xs S => W (F xs S) Q E) E) : W (vApp F es ρ S) Q E := W_bind h
theorem w_app0 {F : FV} (h : W (F [] S) Q fun _ _ => False) : W (vApp0 F ρ S) Q E := by
  rw [e_app0]
  cases hf : F [] S with
  | ok v S => rw [hf] at h; exact h
  | exc e S => rw [hf] at h; exact h.elim
  | bad => rw [hf] at h; exact h.elim
theorem w_lval (h : W (e ρ S) (fun x S => Op (getL S x) fun xs => QL (xs, some x.num) S) E) : W (lVal e ρ S) QL E := by
  rw [e_lval]
  exact W_bind (W_mono h (fun _ _ h => W_bind (W_ofP h)) fun _ _ h => h)
theorem w_cat (h : W (la ρ S) (fun l S => W (lb ρ S) (fun m S => lkOk l S ∧ l.1.length + m.1.length ≤ sizeLine ∧ QL (l.1 ++ m.1, none) S) E) E) : W (lCat la lb ρ S) QL E := by
  rw [e_cat]
  exact W_bind (W_mono h (fun _ _ h => W_bind (W_mono h (fun _ _ h => by rw [if_pos ⟨h.1, h.2.1⟩]; exact h.2.2) fun _ _ h => h)) fun _ _ h => h)
theorem w_eqL {neg : Bool} (h : W (la ρ S) (fun l S => W (lb ρ S) (fun m S => lkOk l S ∧ Op (eqS S (.frl l.1) (.frl m.1)) fun k => Q (.bl (neg != k)) S) E) E) : W (vEqL neg la lb ρ S) Q E := by
  rw [e_eqL]
  refine W_bind (W_mono h (fun l S h => W_bind (W_mono h (fun m S h => ?_) fun _ _ h => h)) fun _ _ h => h)
  rw [if_pos h.1]
  have h := h.2
  cases hf : eqS S (.frl l.1) (.frl m.1) with
  | none => rw [hf] at h; exact h.elim
  | some u => rw [hf] at h; exact h
theorem w_lm {f : List PV → List PV → Option (PV × List PV)} (h : W (o ρ S) (fun x S => Op (getL S x) fun _ => W (es ρ S) (fun ys S => Op (getL S x) fun xs => Op (f xs ys) fun q => Q q.1 (S.set x.num (.lst q.2))) E) E) : W (vLm f o es ρ S) Q E := by
  rw [e_lm]
  refine W_bind (W_mono h (fun x S h => W_bind (W_ofP ?_)) fun _ _ h => h)
  cases hg : getL S x with
  | none => rw [hg] at h; exact h.elim
  | some u =>
    rw [hg] at h
    exact W_bind (W_mono h (fun _ _ h => W_bind (W_ofP (by
      cases hg2 : getL _ x with
      | none => rw [hg2] at h; exact h.elim
      | some u => rw [hg2] at h; exact W_bind (W_ofP h)))) fun _ _ h => h)
theorem w_ext (h : W (o ρ S) (fun x S => Op (getL S x) fun _ => W (l ρ S) (fun m S => Op (getL S x) fun xs => (xs.length + m.1.length ≤ sizeLine ∧ m.2 ≠ some x.num) ∧ Q .non (S.set x.num (.lst (xs ++ m.1)))) E) E) : W (vExt o l ρ S) Q E := by
  rw [e_ext]
  refine W_bind (W_mono h (fun x S h => W_bind (W_ofP ?_)) fun _ _ h => h)
  cases hg : getL S x with
  | none => rw [hg] at h; exact h.elim
  | some u =>
    rw [hg] at h
    exact W_bind (W_mono h (fun _ _ h => W_bind (W_ofP (by
      cases hg2 : getL _ x with
      | none => rw [hg2] at h; exact h.elim
      | some u => rw [hg2] at h; show W (if _ then _ else _) _ _; rw [if_pos h.1]; exact h.2))) fun _ _ h => h)
theorem w_sm {f : Str → List PV → Option PV} (h : W (o ρ S) (fun x S => IsS x fun z => W (es ρ S) (fun ys S => Op (f z ys) fun u => Q u S) E) E) : W (vSm f o es ρ S) Q E := by
  refine W_bind (W_mono h (fun x S h => ?_) fun _ _ h => h)
  cases x with
  | str z => exact W_bind (W_mono h (fun _ _ h => W_ofO h) fun _ _ h => h)
  | _ => exact h.elim
theorem w_sm0 {f : Str → Option PV} (h : W (o ρ S) (fun x S => IsS x fun z => Op (f z) fun u => Q u S) E) : W (vSm0 f o ρ S) Q E := by
  refine W_bind (W_mono h (fun x S h => ?_) fun _ _ h => h)
  cases x with
  | str z => exact W_ofO h
  | _ => exact h.elim
theorem w_lsm {f : Str → List PV → Option (List PV)} (h : W (o ρ S) (fun x S => IsS x fun z => W (es ρ S) (fun ys S => Op (f z ys) fun u => QL (u, none) S) E) E) : W (lSm f o es ρ S) QL E := by
  refine W_bind (W_mono h (fun x S h => ?_) fun _ _ h => h)
  cases x with
  | str z =>
    refine W_bind (W_mono h (fun ys S h => ?_) fun _ _ h => h)
    cases hf : f z ys with
    | none => rw [hf] at h; exact h.elim
    | some u => rw [hf] at h; exact h
  | _ => exact h.elim
theorem w_smL {f : Str → List PV → Option PV} (h : W (o ρ S) (fun x S => IsS x fun z => W (l ρ S) (fun m S => Op (f z m.1) fun u => Q u S) E) E) : W (vSmL f o l ρ S) Q E := by
  refine W_bind (W_mono h (fun x S h => ?_) fun _ _ h => h)
  cases x with
  | str z => exact W_bind (W_mono h (fun _ _ h => W_ofO h) fun _ _ h => h)
  | _ => exact h.elim
theorem w_dic0 (h : Q (.ref S.length) (S ++ [.dic []])) : W (vDic0 ρ S) Q E := h
theorem w_dic1 (h : W (a ρ S) (fun k S => W (b ρ S) (fun v S => Op (keyOf k) fun k => Q (.ref S.length) (S ++ [.dic [(k, v)]])) E) E) : W (vDic1 a b ρ S) Q E := by
  refine W_bind (W_mono h (fun x S h => W_bind (W_mono h (fun y S h => ?_) fun _ _ h => h)) fun _ _ h => h)
  cases hf : keyOf x with
  | none => rw [hf] at h; exact h.elim
  | some u => rw [hf] at h; exact h
theorem w_iV {QI : LI → Store → Prop} (h : W (e ρ S) (fun x S => Op (itemsOf x S) fun l => QI l S) E) : W (iV e ρ S) QI E := by
  refine W_bind (W_mono h (fun x S h => ?_) fun _ _ h => h)
  cases hf : itemsOf x S with
  | none => rw [hf] at h; exact h.elim
  | some u => rw [hf] at h; exact h
/-- a list that is walked -/
def IL (l : LL) (S : Store) (Q : LI → Store → Prop) : Prop := match l.2 with
  | none => Q (l.1, none) S
  | some j => Q (l.1, some (.one j l.1)) S
theorem w_iL {QI : LI → Store → Prop} (h : W (l ρ S) (fun l S => IL l S QI) E) : W (iL l ρ S) QI E := by
  refine W_bind (W_mono h (fun l S h => ?_) fun _ _ h => h)
  obtain ⟨xs, n⟩ := l
  cases n <;> exact h
theorem il_none {xs : List PV} {QI : LI → Store → Prop} (q : QI (xs, none) S) : IL (xs, none) S QI := q
theorem il_some {xs : List PV} {j : Nat} {QI : LI → Store → Prop} (q : QI (xs, some (.one j xs)) S) : IL (xs, some j) S QI := q
theorem w_rng {QI : LI → Store → Prop} (h : W (es ρ S) (fun xs S => RngR xs fun l => QI l S) E) : W (iRng es ρ S) QI E := by
  refine W_bind (W_mono h (fun x S h => ?_) fun _ _ h => h)
  unfold RngR at h
  split at h
  · (try dsimp only); rw [if_pos h.1]; exact h.2
  · (try dsimp only); rw [if_pos h.1]; exact h.2
  · exact h.elim
theorem rng1 {j : Int} {Q : LI → Prop} (h : -(2 ^ 62) ≤ j ∧ j ≤ 16777216) (q : Q (rangeL 0 j.toNat, none)) : RngR [.int j] Q := ⟨h, q⟩
theorem w_comp {it : TIt} {tg : Tgt} {vs : List Nat} (h : W (it ρ S) (fun l S => W (compL tg ta e (wipeE ρ vs) l l.1 [] S) QL E) E) : W (lComp tg it ta e vs ρ S) QL E := W_bind h
end
/-! ### statements -/
inductive SetR : Env' → Nat → (PV → Env') → Prop
  | zero {a : Option PV} {ρ : Env'} : SetR (a :: ρ) 0 fun x => some x :: ρ
  | succ {a : Option PV} {ρ : Env'} {i : Nat} {f : PV → Env'} (h : SetR ρ i f) : SetR (a :: ρ) (i + 1) fun x => a :: f x
theorem SetR.eq {ρ : Env'} {i : Nat} {f : PV → Env'} (h : SetR ρ i f) (x : PV) : ρ.set i (some x) = f x := by
  induction h with
  | zero => rfl
  | succ h ih => simp only [List.set_cons_succ, ih]
section
variable {Q : SR → Prop} {ρ : Env'} {S : Store} {e o i v : TV} {ta tb : TB} {l : TL} {a b : TSt}
theorem s_nil (q : Q (.nx ρ S)) : WS (sNil ρ S) Q := q
theorem s_pass (q : Q (.nx ρ S)) : WS (sPass ρ S) Q := q
theorem s_brk (q : Q (.brk ρ S)) : WS (sBrk ρ S) Q := q
theorem s_cnt (q : Q (.cnt ρ S)) : WS (sCnt ρ S) Q := q
theorem s_seq (q : WS (a ρ S) fun r => WS (r.seq b) Q) : WS (sSeq a b ρ S) Q := q
theorem s_seqN (q : WS (a ρ S) Q) : WS (sSeq a sNil ρ S) Q := by
  show Q ((a ρ S).seq sNil)
  have e : (a ρ S).seq sNil = a ρ S := by cases a ρ S <;> rfl
  rw [e]; exact q
theorem q_nx (q : WS (b ρ S) Q) : WS ((SR.nx ρ S).seq b) Q := q
theorem q_ret {v : PV} (q : Q (.ret v S)) : WS ((SR.ret v S).seq b) Q := q
theorem q_brk (q : Q (.brk ρ S)) : WS ((SR.brk ρ S).seq b) Q := q
theorem q_cnt (q : Q (.cnt ρ S)) : WS ((SR.cnt ρ S).seq b) Q := q
theorem q_exc {x : PX} (q : Q (.exc x ρ S)) : WS ((SR.exc x ρ S).seq b) Q := q
theorem s_expr (q : W (e ρ S) (fun _ S => Q (.nx ρ S)) fun x S => Q (.exc x ρ S)) : WS (sExpr e ρ S) Q := WS_sr q
theorem s_set {i : Nat} {f : PV → Env'} (h : SetR ρ i f) (q : W (e ρ S) (fun x S => Q (.nx (f x) S)) fun x S => Q (.exc x ρ S)) : WS (sSet i e ρ S) Q := by
  refine WS_sr (W_mono q (fun x S q => ?_) fun _ _ q => q)
  rw [h.eq]; exact q
theorem s_ret (q : W (e ρ S) (fun x S => Q (.ret x S)) fun x S => Q (.exc x ρ S)) : WS (sRet e ρ S) Q := WS_sr q
theorem s_retN (q : Q (.ret .non S)) : WS (sRetN ρ S) Q := q
theorem s_if (q : W (ta ρ S) (fun x S => Br x (WS (a ρ S) Q) (WS (b ρ S) Q)) fun x S => Q (.exc x ρ S)) : WS (sIf ta a b ρ S) Q := by
  refine WS_sr (W_mono q (fun x S q => ?_) fun _ _ q => q)
  cases x with
  | true => exact q.1 rfl
  | false => exact q.2 rfl
theorem s_unp {tg : Tgt} (q : W (e ρ S) (fun x S => Op (tg x ρ) fun ρ' => Q (.nx ρ' S)) fun x S => Q (.exc x ρ S)) : WS (sUnp tg e ρ S) Q := by
  refine WS_sr (W_mono q (fun x S q => ?_) fun _ _ q => q)
  cases hf : tg x ρ with
  | none => rw [hf] at q; exact q.elim
  | some u => rw [hf] at q; exact q
theorem s_sub (q : W (v ρ S) (fun y S => W (o ρ S) (fun x S => W (i ρ S) (fun k S => Op (storeAt x k y S) fun S' => Q (.nx ρ S')) fun x S => Q (.exc x ρ S)) fun x S => Q (.exc x ρ S)) fun x S => Q (.exc x ρ S)) : WS (sSub o i v ρ S) Q := by
  refine WS_sr (W_mono q (fun y S q => WS_sr (W_mono q (fun x S q => WS_sr (W_mono q (fun k S q => ?_) fun _ _ q => q)) fun _ _ q => q)) fun _ _ q => q)
  cases hf : storeAt x k y S with
  | none => rw [hf] at q; exact q.elim
  | some u => rw [hf] at q; exact q
theorem s_for {it : TIt} {tg : Tgt} (q : W (it ρ S) (fun l S => WS (forL tg b l l.1 ρ S) Q) fun x S => Q (.exc x ρ S)) : WS (sFor tg it b ρ S) Q := WS_sr q
/-- a loop over a list that isn't in the store, or that stays -/
theorem s_loop {tg : Tgt} {l : LI} (I : List PV → Env' → Store → Prop) (h0 : I l.1 ρ S)
    (step : ∀ x r ρ S, I (x :: r) ρ S → lkI l S ∧ Op (tg x ρ) fun ρ1 => WS (b ρ1 S) fun o => TurnOk o (I r) Q) (done : ∀ ρ S, I [] ρ S → lkI l S ∧ Q (.nx ρ S)) : WS (forL tg b l l.1 ρ S) Q := by
  refine forL_rule (P := Q) I h0 (fun x r ρ S h => ?_) done
  obtain ⟨h1, h2⟩ := step x r ρ S h
  refine ⟨h1, ?_⟩
  cases hf : tg x ρ with
  | none => rw [hf] at h2; exact h2.elim
  | some u => rw [hf] at h2; exact ⟨u, rfl, h2⟩
theorem s_while (I : Nat → Env' → Store → Prop) (m : Nat) (h0 : I m ρ S) (step : ∀ m ρ S, I m ρ S → W (ta ρ S) (fun k S1 => Br k (WS (b ρ S1) fun o => TurnOk o (fun ρ' S' => ∃ m', m' < m ∧ I m' ρ' S') Q) (Q (.nx ρ S1))) fun _ _ => False) : WS (sWhile ta b ρ S) Q := by
  refine while_rule (P := Q) I (fun m ρ S h => ?_) m ρ S h0
  obtain ⟨k, S1, h1, h2⟩ := W.ok (step m ρ S h)
  exact ⟨k, S1, h1, h2.2, h2.1⟩
theorem t_n {n : Nat} {f : PV → Env'} {x : PV} {P : Env' → Prop} (h : SetR ρ n f) (q : P (f x)) : Op (tgN n x ρ) P := by
  show P (ρ.set n (some x)); rw [h.eq]; exact q
end
theorem w_turns {tg : Tgt} {c : TB} {el : TV} {ρ : Env'} {S : Store} {l : LI} {Q : LL → Store → Prop} {E : PX → Store → Prop} (I : List PV → List PV → Store → Prop) (h0 : I l.1 [] S)
    (step : ∀ x r acc S, I (x :: r) acc S → lkI l S ∧ Op (tg x ρ) fun ρ1 => W (c ρ1 S) (fun k S1 => Br k (W (el ρ1 S1) (fun y S2 => I r (acc ++ [y]) S2) fun _ _ => False) (I r acc S1)) fun _ _ => False) (done : ∀ acc S, I [] acc S → lkI l S ∧ Q (acc, none) S) : W (compL tg c el ρ l l.1 [] S) Q E := by
  refine compL_rule (P := fun r => W r Q E) I h0 (fun x r acc S h => ?_) done
  obtain ⟨h1, h2⟩ := step x r acc S h
  refine ⟨h1, ?_⟩
  cases hf : tg x ρ with
  | none => rw [hf] at h2; exact h2.elim
  | some u =>
    rw [hf] at h2
    obtain ⟨k, S1, h3, h4⟩ := W.ok h2
    refine ⟨u, rfl, k, S1, h3, fun hk => ?_, h4.2⟩
    obtain ⟨y, S2, h5, h6⟩ := W.ok (h4.1 hk)
    exact ⟨y, S2, h5, h6⟩
/-- a comprehension that changes nothing -/
theorem w_pure {tg : Tgt} {c : TB} {el : TV} {ρ : Env'} {S : Store} {l : LI} {Q : LL → Store → Prop} {E : PX → Store → Prop} (p : PV → Bool) (f : PV → PV) (lk : lkI l S)
    (h : ∀ x ∈ l.1, Op (tg x ρ) fun ρ1 => W (c ρ1 S) (fun k S1 => (k = p x ∧ S1 = S) ∧ (p x = true → W (el ρ1 S) (fun y S2 => y = f x ∧ S2 = S) fun _ _ => False)) fun _ _ => False) (q : Q ((l.1.filter p).map f, none) S) : W (compL tg c el ρ l l.1 [] S) Q E := by
  rw [compL_pure p f lk l.1 [] fun x hx => ?_]
  · exact q
  · have h := h x hx
    cases hf : tg x ρ with
    | none => rw [hf] at h; exact h.elim
    | some u =>
      rw [hf] at h
      obtain ⟨k, S1, h3, ⟨rfl, rfl⟩, h4⟩ := W.ok h
      refine ⟨u, rfl, h3, fun hp => ?_⟩
      obtain ⟨y, S2, h5, rfl, rfl⟩ := W.ok (h4 hp)
      exact h5
theorem w_pureY {tg : Tgt} {el : TV} {ρ : Env'} {S : Store} {l : LI} {Q : LL → Store → Prop} {E : PX → Store → Prop} (f : PV → PV) (lk : lkI l S)
    (h : ∀ x ∈ l.1, Op (tg x ρ) fun ρ1 => W (el ρ1 S) (fun y S2 => y = f x ∧ S2 = S) fun _ _ => False) (q : Q (l.1.map f, none) S) : W (compL tg bYes el ρ l l.1 [] S) Q E := by
  refine w_pure (fun _ => true) f lk (fun x hx => ?_) ?_
  · have h := h x hx
    cases hf : tg x ρ with
    | none => rw [hf] at h; exact h.elim
    | some u => rw [hf] at h; exact ⟨⟨rfl, rfl⟩, fun _ => h⟩
  · rw [List.filter_eq_self.mpr (fun _ _ => rfl)]; exact q
/-! ### operations -/
section
variable {P : PV → Prop} {S : Store}
theorem o_addI {a b : Int} (q : P (.int (a + b))) : Op (oAdd (.int a) (.int b) S) P := q
theorem o_addS {a b : Str} (h : a.length + b.length ≤ sizeLine) (q : P (.str (a ++ b))) : Op (oAdd (.str a) (.str b) S) P := Op.of (by rw [x_addS, if_pos h]) q
theorem o_iadd {a b : Int} (q : P (.int (a + b))) : Op (oAddI (.int a) (.int b) S) P := q
theorem o_sub {a b : Int} (q : P (.int (a - b))) : Op (oSub (.int a) (.int b) S) P := q
theorem o_mul {a b : Int} (h : (-(2 ^ 64) < a ∧ a < 2 ^ 64) ∨ (-(2 ^ 64) < b ∧ b < 2 ^ 64)) (q : P (.int (a * b))) : Op (oMul (.int a) (.int b) S) P := Op.of (by rw [x_mul, if_pos h]) q
theorem o_div {a b : Int} (h : 0 < b ∧ b < 1073741824) (q : P (.int (a / b))) : Op (oDiv (.int a) (.int b) S) P := Op.of (by rw [x_div, if_pos h]) q
theorem o_mod {a b : Int} (h : 0 < b) (q : P (.int (a % b))) : Op (oMod (.int a) (.int b) S) P := Op.of (by rw [x_mod, if_pos h]) q
theorem o_pow {a b : Int} (h : 0 ≤ b ∧ b ≤ 1000000 ∧ a.natAbs < 2 ^ 64) (q : P (.int (a ^ b.toNat))) : Op (oPow (.int a) (.int b) S) P := Op.of (by rw [x_pow, if_pos h]) q
theorem o_neg {a : Int} (q : P (.int (-a))) : Op (oNeg (.int a) S) P := q
theorem o_ltI {a b : Int} (q : P (.bl (decide (a < b)))) : Op (oLt (.int a) (.int b) S) P := q
theorem o_le {a b : Int} (q : P (.bl (decide (a ≤ b)))) : Op (oLe (.int a) (.int b) S) P := q
theorem o_gt {a b : Int} (q : P (.bl (decide (b < a)))) : Op (oGt (.int a) (.int b) S) P := q
theorem o_ge {a b : Int} (q : P (.bl (decide (b ≤ a)))) : Op (oGe (.int a) (.int b) S) P := q
theorem o_is {x : PV} (q : P (.bl x.isNon)) : Op (oIs x .non S) P := q
theorem o_isNot {x : PV} (q : P (.bl (!x.isNon))) : Op (oIsNot x .non S) P := q
theorem o_idxT {xs : List PV} {k : Int} {y : PV} (h : atI xs k = some y) (q : P y) : Op (oIdx (.tup xs) (.int k) S) P := Op.of h q
theorem o_idxR {j : Nat} {xs : List PV} {k : Int} {y : PV} (g : S[j]? = some (.lst xs)) (h : atI xs k = some y) (q : P y) : Op (oIdx (.ref j) (.int k) S) P := Op.of (by rw [x_idxR g]; exact h) q
theorem o_idxS {z : Str} {k : Int} {y : Nat} (h : atI z.cps.toList k = some y) (q : P (.str ⟨#[y]⟩)) : Op (oIdx (.str z) (.int k) S) P := Op.of (by rw [x_idxS, h]; rfl) q
theorem o_lenT {xs : List PV} (q : P (.int xs.length)) : Op (fLen [.tup xs] S) P := q
theorem o_lenF {xs : List PV} (q : P (.int xs.length)) : Op (fLen [.frl xs] S) P := q
theorem o_lenS {z : Str} (q : P (.int z.length)) : Op (fLen [.str z] S) P := q
theorem o_lenR {j : Nat} {xs : List PV} (g : S[j]? = some (.lst xs)) (q : P (.int xs.length)) : Op (fLen [.ref j] S) P := Op.of (x_lenR g) q
theorem o_intB {b : Bool} (q : P (.int (if b then 1 else 0))) : Op (fInt [.bl b] S) P := q
theorem o_intI {b : Int} (q : P (.int b)) : Op (fInt [.int b] S) P := q
theorem o_max {i j : Int} (q : P (.int (if j > i then j else i))) : Op (fMax [.int i, .int j] S) P := q
theorem o_min {i j : Int} (q : P (.int (if j < i then j else i))) : Op (fMin [.int i, .int j] S) P := q
theorem o_tupT {xs : List PV} (q : P (.tup xs)) : Op (fTup [.tup xs] S) P := q
theorem o_tupR {j : Nat} {xs : List PV} (g : S[j]? = some (.lst xs)) (q : P (.tup xs)) : Op (fTup [.ref j] S) P := Op.of (x_tupR g) q
theorem o_listR {P : List PV → Prop} {j : Nat} {xs : List PV} (g : S[j]? = some (.lst xs)) (q : P xs) : Op (fList [.ref j] S) P := Op.of (x_listR g) q
theorem o_getL {P : List PV → Prop} {j : Nat} {xs : List PV} (g : S[j]? = some (.lst xs)) (q : P xs) : Op (getL S (.ref j)) P := Op.of (getL_ref g) q
theorem o_app {P : PV × List PV → Prop} {xs : List PV} {y : PV} (h : xs.length < sizeLine) (q : P (.non, xs ++ [y])) : Op (mAppend xs [y]) P := Op.of (by rw [x_append, if_pos h]) q
theorem o_eq {x y : PV} {k : Bool} (h : eqS S x y = some k) (q : P (.bl k)) : Op (oEq x y S) P := Op.of (by rw [x_eq, h]; rfl) q
theorem o_ne {x y : PV} {k : Bool} (h : eqS S x y = some k) (q : P (.bl (!k))) : Op (oNe x y S) P := Op.of (by rw [x_ne, h]; rfl) q
theorem o_eqI {a b : Int} (q : P (.bl (a == b))) : Op (oEq (.int a) (.int b) S) P := o_eq (eqS_int S a b) q
theorem o_eqS {a b : Str} (q : P (.bl (a == b))) : Op (oEq (.str a) (.str b) S) P := o_eq (eqS_str S a b) q
theorem o_eqB {a b : Bool} (q : P (.bl (a == b))) : Op (oEq (.bl a) (.bl b) S) P := o_eq (eqS_bl S a b) q
theorem o_in {x y : PV} {k : Bool} (h : inS S x y = some k) (q : P (.bl k)) : Op (oIn x y S) P := Op.of (by rw [x_in, h]; rfl) q
theorem o_notIn {x y : PV} {k : Bool} (h : inS S x y = some k) (q : P (.bl (!k))) : Op (oNotIn x y S) P := Op.of (by rw [x_notIn, h]; rfl) q
theorem b_is {k : Bool} {R : Bool → Prop} (q : R k) : IsB (.bl k) R := q
theorem i_is {k : Int} {R : Int → Prop} (q : R k) : IsI (.int k) R := q
theorem s_is {k : Str} {R : Str → Prop} (q : R k) : IsS (.str k) R := q
theorem i_tup {P : LI → Prop} {xs : List PV} (q : P (xs, none)) : Op (itemsOf (.tup xs) S) P := q
theorem i_str {P : LI → Prop} {z : Str} (q : P (z.cps.toList.map fun c => .str ⟨#[c]⟩, none)) : Op (itemsOf (.str z) S) P := q
theorem i_ref {P : LI → Prop} {j : Nat} {xs : List PV} (g : S[j]? = some (.lst xs)) (q : P (xs, some (.one j xs))) : Op (itemsOf (.ref j) S) P := Op.of (by simp only [itemsOf, g]) q
theorem tr_bl {R : Bool → Prop} {k : Bool} (q : R k) : Op (truth (.bl k) S) R := q
theorem ty_bl {R : String → Prop} {k : Bool} (q : R "bool") : Op (tyN S (.bl k)) R := q
theorem ty_str {R : String → Prop} {k : Str} (q : R "str") : Op (tyN S (.str k)) R := q
theorem ty_tup {R : String → Prop} {k : List PV} (q : R "tuple") : Op (tyN S (.tup k)) R := q
theorem ty_int {R : String → Prop} {k : Int} (q : R "int") : Op (tyN S (.int k)) R := q
theorem k_s {R : Key → Prop} {k : Str} (q : R (.inr k)) : Op (keyOf (.str k)) R := q
theorem k_i {R : Key → Prop} {k : Int} (q : R (.inl k)) : Op (keyOf (.int k)) R := q
end
/-! ### what stays -/
section
variable {P : PObj → Prop} {i : Nat} {S S' T U : Store}
/-- a later thing is set -/
theorem Fr.setL (a : Fr P i S T) {j : Nat} (hj : S.length ≤ j) (hi : j ≠ i) (o : PObj) : Fr P i S (T.set j o) := by
  refine ⟨by simp [a.le], fun k hk hki => ?_, ?_⟩
  · rw [List.getElem?_set_ne (by omega)]; exact a.get k hk hki
  · obtain ⟨o', h, p⟩ := a.own
    exact ⟨o', by rw [List.getElem?_set_ne hi]; exact h, p⟩
theorem Kp.setL (a : Kp S T) {j : Nat} (hj : S.length ≤ j) (o : PObj) : Kp S (T.set j o) := by
  refine ⟨by simp [a.le], fun k hk => ?_⟩
  rw [List.getElem?_set_ne (by omega)]; exact a.get k hk
theorem Fr.gc (a : Fr P i S T) (hl : ∀ o n, P o → o.low n = true) : gcOk S T := ⟨a.le, fun j hj => by
  by_cases h : j = i
  · subst h
    obtain ⟨o, h, p⟩ := a.own
    exact .inr ⟨o, h, hl o _ p⟩
  · exact .inl (a.get j hj h)⟩
theorem Kp.gc (a : Kp S T) : gcOk S T := ⟨a.le, fun j hj => .inl (a.get j hj)⟩
theorem Fr.cut (a : Fr P i S T) (hi : i < S.length) : Fr P i S (T.take S.length) := by
  refine ⟨by simp [a.le], fun j hj h => ?_, ?_⟩
  · rw [List.getElem?_take_of_lt hj]; exact a.get j hj h
  · obtain ⟨o, h, p⟩ := a.own
    exact ⟨o, by rw [List.getElem?_take_of_lt hi]; exact h, p⟩
end
/-! ### what a def gives back -/
section
variable {P : PObj → Prop} {i : Nat} {S T : Store} {Q : PV → Store → Prop} {E : PX → Store → Prop} {v : PV}
theorem f_ret (h : W (gcV S v T) Q E) : W (fin S (.ret v T)) Q E := h
theorem f_nx {ρ : Env'} (h : W (gcV S .non T) Q E) : W (fin S (.nx ρ T)) Q E := h
theorem f_body {b : TSt} {ρ : Env'} (h : WS (b ρ S) fun r => W (fin S r) Q E) : W (fin S (b ρ S)) Q E := h
/-- nothing changed -/
theorem g_keep (k : Kp S T) (hv : v.low S.length = true) (q : Q v S) : W (gcV S v T) Q E := by
  unfold gcV
  rw [if_pos k.gc, if_pos hv, k.take]; exact q
theorem g_new (k : Kp S T) {j : Nat} {o : PObj} (hj : S.length ≤ j) (h : T[j]? = some o) (ho : o.low S.length = true) (q : Q (.ref S.length) (S ++ [o])) : W (gcV S (.ref j) T) Q E := by
  unfold gcV
  have hv : ¬ (PV.ref j).low S.length = true := by simp [PV.low]; omega
  rw [if_pos k.gc, if_neg hv]
  dsimp only
  rw [h]
  dsimp only
  rw [if_pos ⟨hj, ho⟩, k.take]; exact q
theorem g_fr (a : Fr P i S T) (hl : ∀ o n, P o → o.low n = true) (hi : i < S.length) (hv : v.low S.length = true) (q : ∀ U, Fr P i S U → U.length = S.length → Q v U) : W (gcV S v T) Q E := by
  unfold gcV
  rw [if_pos (a.gc hl), if_pos hv]
  exact q _ (a.cut hi) (by simp only [List.length_take]; have := a.le; omega)
theorem g_frNew (a : Fr P i S T) (hl : ∀ o n, P o → o.low n = true) (hi : i < S.length) {j : Nat} {o : PObj} (hj : S.length ≤ j) (h : T[j]? = some o) (ho : o.low S.length = true) (q : ∀ U, Fr P i S U → U.length = S.length + 1 → U[S.length]? = some o → Q (.ref S.length) U) : W (gcV S (.ref j) T) Q E := by
  unfold gcV
  have hv : ¬ (PV.ref j).low S.length = true := by simp [PV.low]; omega
  rw [if_pos (a.gc hl), if_neg hv]
  dsimp only
  rw [h]
  dsimp only
  rw [if_pos ⟨hj, ho⟩]
  have hlen : (T.take S.length).length = S.length := by simp only [List.length_take]; have := a.le; omega
  refine q _ ((a.cut hi).trans ((Kp.app _ _).fr (a.cut hi).own)) (by simp [hlen]) ?_
  rw [List.getElem?_append_right (by omega), hlen, Nat.sub_self]; rfl
end
/-! ### walking -/
local macro_rules | `(tactic| walk_at "w") => `(tactic| first
  | (with_reducible apply s_set; focus (repeat first | exact SetR.zero | apply SetR.succ))
  | (with_reducible apply w_get; focus (repeat first | exact GetR.zero | apply GetR.succ))
  | with_reducible first
  | refine s_seqN ?_ | refine s_seq ?_ | refine q_nx ?_ | refine q_ret ?_ | refine q_brk ?_ | refine q_cnt ?_ | refine q_exc ?_
  | refine s_nil ?_ | refine s_pass ?_ | refine s_brk ?_ | refine s_cnt ?_ | refine s_expr ?_ | refine s_ret ?_ | refine s_retN ?_ | refine s_if ?_ | refine s_unp ?_ | refine s_sub ?_ | refine s_for ?_
  | refine w_c ?_ | (refine w_str ?_ ?_; decide +kernel) | refine w_bin ?_ | refine w_un ?_ | refine w_chn ?_ | refine w_bV ?_ | refine w_bBl ?_ | refine w_bAnd ?_ | refine w_bOr ?_ | refine w_bNot ?_ | refine w_bYes ?_
  | refine w_vAnd ?_ | refine w_vOr ?_ | refine w_vNot ?_ | refine w_vIf ?_ | refine w_nil ?_ | refine w_cons ?_ | refine w_tup ?_ | refine w_disp ?_ | refine w_new ?_ | refine lnew ?_ | refine w_oNone ?_ | refine w_oSome ?_ | refine w_slc ?_ | refine w_lslc ?_ | refine slcT ?_ | refine slcS ?_
  | refine w_call ?_ | refine w_callL ?_ | refine w_lcallL ?_ | refine w_lcallN ?_ | refine w_isi ?_ | refine w_app ?_ | refine w_app0 ?_ | refine w_lval ?_ | refine w_cat ?_ | refine w_eqL ?_ | refine w_lm ?_ | refine w_ext ?_ | refine w_sm ?_ | refine w_sm0 ?_ | refine w_lsm ?_ | refine w_smL ?_ | refine w_dic0 ?_ | refine w_dic1 ?_ | refine w_iV ?_ | refine w_iL ?_ | refine il_none ?_ | refine il_some ?_ | refine w_rng ?_ | refine w_comp ?_ | refine w_rev ?_ | refine w_lenSet ?_ | refine w_extV ?_
  | refine o_addI ?_ | refine o_iadd ?_ | refine o_sub ?_ | refine o_neg ?_ | refine o_ltI ?_ | refine o_le ?_ | refine o_gt ?_ | refine o_ge ?_ | refine o_is ?_ | refine o_isNot ?_ | refine o_lenT ?_ | refine o_lenF ?_ | refine o_lenS ?_ | refine o_intB ?_ | refine o_intI ?_ | refine o_max ?_ | refine o_min ?_ | refine o_tupT ?_ | refine o_eqI ?_ | refine o_eqS ?_ | refine o_eqB ?_
  | refine b_is ?_ | refine i_is ?_ | refine s_is ?_ | refine i_tup ?_ | refine i_str ?_ | refine tr_bl ?_ | refine ty_bl ?_ | refine ty_str ?_ | refine ty_tup ?_ | refine ty_int ?_ | refine k_s ?_ | refine k_i ?_
  | refine Br.tt ?_ | refine Br.ff ?_ | refine Br.nf ?_ | refine Br.nt ?_ | refine f_ret ?_ | refine f_nx ?_ | refine f_body ?_)
end
local macro_rules | `(tactic| walk_at "w") => `(tactic| first
  | (with_reducible apply s_set; focus (repeat first | exact SetR.zero | apply SetR.succ))
  | (with_reducible apply w_get; focus (repeat first | exact GetR.zero | apply GetR.succ))
  | with_reducible first
  | refine s_seqN ?_ | refine s_seq ?_ | refine q_nx ?_ | refine q_ret ?_ | refine q_brk ?_ | refine q_cnt ?_ | refine q_exc ?_
  | refine s_nil ?_ | refine s_pass ?_ | refine s_brk ?_ | refine s_cnt ?_ | refine s_expr ?_ | refine s_ret ?_ | refine s_retN ?_ | refine s_if ?_ | refine s_unp ?_ | refine s_sub ?_ | refine s_for ?_
  | refine w_c ?_ | (refine w_str ?_ ?_; decide +kernel) | refine w_bin ?_ | refine w_un ?_ | refine w_chn ?_ | refine w_bV ?_ | refine w_bBl ?_ | refine w_bAnd ?_ | refine w_bOr ?_ | refine w_bNot ?_ | refine w_bYes ?_
  | refine w_vAnd ?_ | refine w_vOr ?_ | refine w_vNot ?_ | refine w_vIf ?_ | refine w_nil ?_ | refine w_cons ?_ | refine w_tup ?_ | refine w_disp ?_ | refine w_new ?_ | refine lnew ?_ | refine w_oNone ?_ | refine w_oSome ?_ | refine w_slc ?_ | refine w_lslc ?_ | refine slcT ?_ | refine slcS ?_
  | refine w_call ?_ | refine w_callL ?_ | refine w_lcallL ?_ | refine w_lcallN ?_ | refine w_isi ?_ | refine w_app ?_ | refine w_app0 ?_ | refine w_lval ?_ | refine w_cat ?_ | refine w_eqL ?_ | refine w_lm ?_ | refine w_ext ?_ | refine w_sm ?_ | refine w_sm0 ?_ | refine w_lsm ?_ | refine w_smL ?_ | refine w_dic0 ?_ | refine w_dic1 ?_ | refine w_iV ?_ | refine w_iL ?_ | refine il_none ?_ | refine il_some ?_ | refine w_rng ?_ | refine w_comp ?_ | refine w_rev ?_ | refine w_lenSet ?_ | refine w_extV ?_
  | refine o_addI ?_ | refine o_iadd ?_ | refine o_sub ?_ | refine o_neg ?_ | refine o_ltI ?_ | refine o_le ?_ | refine o_gt ?_ | refine o_ge ?_ | refine o_is ?_ | refine o_isNot ?_ | refine o_lenT ?_ | refine o_lenF ?_ | refine o_lenS ?_ | refine o_intB ?_ | refine o_intI ?_ | refine o_max ?_ | refine o_min ?_ | refine o_tupT ?_ | refine o_eqI ?_ | refine o_eqS ?_ | refine o_eqB ?_
  | refine b_is ?_ | refine i_is ?_ | refine s_is ?_ | refine i_tup ?_ | refine i_str ?_ | refine tr_bl ?_ | refine ty_bl ?_ | refine ty_str ?_ | refine ty_tup ?_ | refine ty_int ?_ | refine k_s ?_ | refine k_i ?_
  | refine Br.tt ?_ | refine Br.ff ?_ | refine Br.nf ?_ | refine Br.nt ?_ | refine f_ret ?_ | refine f_nx ?_ | refine f_body ?_)
/-! Fw13: the small defs that every law carries. -/
section
end
end Ev
namespace Ev
open PySem PySem.Spec PyProof.Rows L2 SX
/-! Fw14: texts by their code points, parts of lists. -/
section
/-! ### parts -/
theorem cut_to {α : Type} (xs : List α) {k : Int} (h : 0 ≤ k) : cutL xs none (some k) = xs.take k.toNat := by
  obtain ⟨n, rfl⟩ := Int.eq_ofNat_of_zero_le h
  unfold cutL
  rw [HT.sIx_none, HT.sIx_nat, List.drop_zero, Nat.sub_zero, Int.toNat_natCast]
  by_cases hn : n ≤ xs.length
  · rw [Nat.min_eq_left hn]
  · rw [Nat.min_eq_right (by omega), List.take_length, List.take_of_length_le (by omega)]
theorem cut_from {α : Type} (xs : List α) {k : Int} (h : 0 ≤ k) : cutL xs (some k) none = xs.drop k.toNat := by
  obtain ⟨n, rfl⟩ := Int.eq_ofNat_of_zero_le h
  unfold cutL
  rw [HT.sIx_none, HT.sIx_nat, Int.toNat_natCast]
  by_cases hn : n ≤ xs.length
  · rw [Nat.min_eq_left hn, List.take_of_length_le (by simp)]
  · rw [Nat.min_eq_right (by omega), Nat.sub_self, List.take_zero, List.drop_of_length_le (by omega)]
theorem cut_mid {α : Type} (xs : List α) {k m : Int} (h : 0 ≤ k) (h2 : 0 ≤ m) : cutL xs (some k) (some m) = (xs.drop k.toNat).take (m.toNat - k.toNat) := by
  obtain ⟨n, rfl⟩ := Int.eq_ofNat_of_zero_le h
  obtain ⟨j, rfl⟩ := Int.eq_ofNat_of_zero_le h2
  unfold cutL
  rw [HT.sIx_nat, HT.sIx_nat, Int.toNat_natCast, Int.toNat_natCast]
  by_cases hn : n ≤ xs.length
  · rw [Nat.min_eq_left hn]
    by_cases hj : j ≤ xs.length
    · rw [Nat.min_eq_left hj]
    · rw [Nat.min_eq_right (by omega), List.take_of_length_le (by simp), List.take_of_length_le (by simp; omega)]
  · rw [Nat.min_eq_right (show xs.length ≤ n by omega), List.drop_of_length_le (Nat.le_refl _), List.drop_of_length_le (show xs.length ≤ n by omega)]; simp
theorem sCut (a : List Nat) (l h : Option Int) : strCut (S a) l h = S (cutL a l h) := rfl
theorem len_S (a : List Nat) : (S a).length = a.length := S_len a
theorem atI_ex {α : Type} {xs : List α} {k : Int} (h0 : 0 ≤ k) (h1 : k < xs.length) : ∃ x, atI xs k = some x ∧ x ∈ xs := by
  obtain ⟨x, h, e⟩ := atI_in h0 h1
  exact ⟨x, h, List.mem_of_getElem? e⟩
theorem atI_map {α β : Type} (f : α → β) (xs : List α) (k : Int) : atI (xs.map f) k = (atI xs k).map f := by
  unfold atI
  rw [List.length_map]
  cases ixN xs.length k with
  | none => rfl
  | some j => simp
theorem ixN_in {n : Nat} {k : Int} (h0 : 0 ≤ k) (h1 : k < n) : ixN n k = some k.toNat := by
  unfold ixN; rw [if_pos h0, if_pos h1]
/-! ### data -/
theorem lows_strs (n : Nat) (l : List Str) : PV.lows n (l.map .str) = true := lows_dat n _ (dats_strs l)
theorem any_strs (l : List Str) (x : Str) : ((l.map PV.str).any fun z => PV.eqv z (.str x)) = decide (x ∈ l) := by
  induction l with
  | nil => rfl
  | cons a l ih =>
    rw [List.map_cons, List.any_cons, ih, eqv_str]
    simp only [List.mem_cons, Bool.decide_or]
    congr 1
    by_cases h : a = x
    · subst h; simp
    · simp [h, Ne.symm h]
theorem in_strs {S0 : Store} {j : Nat} {l : List Str} (h : S0[j]? = some (.lst (l.map .str))) (x : Str) : inS S0 (.str x) (.ref j) = some (decide (x ∈ l)) := by
  unfold inS
  rw [deref_ref h]
  dsimp only
  rw [if_pos ⟨rfl, dats_strs l, by rw [deps_strs]; exact Nat.zero_le _⟩]
  exact congrArg some (any_strs l x)
theorem eq_empty {S0 : Store} (l : List PV) : eqS S0 (.frl l) (.frl []) = some l.isEmpty := by
  unfold eqS
  split
  · cases l <;> rfl
  · cases l <;> rfl
theorem asBl_bls (l : List Bool) : asBl (l.map .bl) = some l := by
  induction l with
  | nil => rfl
  | cons a l ih => simp only [List.map_cons, asBl, ih, Option.map_some]
theorem o_all {P : PV → Prop} {l : List Bool} (q : P (.bl (l.all _root_.id))) : Op (fAll (l.map .bl)) P := Op.of (by unfold fAll; rw [asBl_bls]; rfl) q
theorem asStr_strs (l : List Str) : asStr (l.map .str) = some l := by
  induction l with
  | nil => rfl
  | cons a l ih => simp only [List.map_cons, asStr, ih, Option.map_some]
theorem joinL_ones (l : List Nat) : TL.joinL [] (l.map fun c => [c]) = l := by
  induction l with
  | nil => rfl
  | cons a l ih =>
    cases l with
    | nil => rfl
    | cons b l => simp only [List.map_cons, TL.joinL] at ih ⊢; rw [ih]; rfl
theorem join_ones (l : List Nat) : Txt.join (S []) (l.map fun c => S [c]) = S l := by
  have := join_S [] (l.map fun c => [c])
  rw [List.map_map] at this
  rw [joinL_ones] at this
  exact this
theorem o_join {P : PV → Prop} {l : List Nat} (h : ∀ c ∈ l, c < 1114112) (hl : l.length ≤ 1000) (q : P (.str (S l))) : Op (mJoin (S []) (l.map fun c => .str (S [c]))) P := by
  refine Op.of ?_ q
  have e : (l.map fun c => PV.str (S [c])) = (l.map fun c => S [c]).map PV.str := by rw [List.map_map]; rfl
  unfold mJoin
  rw [e, asStr_strs]
  dsimp only
  rw [join_ones, if_pos]
  refine ⟨?_, SOk_S.mpr ⟨by have := sizeLine_eq; omega, h⟩⟩
  rw [List.map_map]
  have : ∀ l : List Nat, (l.map ((fun x : Str => x.length) ∘ fun c => S [c])).sum = l.length := by
    intro l
    induction l with
    | nil => rfl
    | cons a l ih => simp only [List.map_cons, List.sum_cons, ih, List.length_cons, Function.comp, S_len, List.length_nil]; omega
  rw [this, S_len, List.length_map]
  simp; omega
/-! ### the letters -/
theorem lt26_eq : (Str.ofString "abcdefghijklmnopqrstuvwxyz") = S lt26 := by decide +kernel
theorem at_lt26 {k : Int} (h0 : 0 ≤ k) (h1 : k < 26) : atI (S lt26).cps.toList k = some (97 + k.toNat) := by
  obtain ⟨n, rfl⟩ := Int.eq_ofNat_of_zero_le h0
  have : ∀ n < 26, atI lt26 ((n : Nat) : Int) = some (97 + n) := by decide
  exact this n (by omega)
theorem ix_lt26 {c : Nat} (h : isLt c) : mIndex (S lt26) [.str (S [c])] = some (.int ((c - 97 : Nat) : Int)) := by
  have : ∀ k < 26, Builtin.Str.occurrences (S lt26) (S [97 + k]) 0 (S lt26).length 1 = [k] := by decide +kernel
  have e := this (c - 97) (by have := h.2; omega)
  rw [show 97 + (c - 97) = c by have := h.1; omega] at e
  unfold mIndex
  dsimp only
  rw [e]
theorem o_index {P : PV → Prop} {c : Nat} (h : isLt c) (q : P (.int ((c - 97 : Nat) : Int))) : Op (mIndex (S lt26) [.str (S [c])]) P := Op.of (ix_lt26 h) q
theorem o_letter {P : PV → Prop} {S0 : Store} {k : Int} (h0 : 0 ≤ k) (h1 : k < 26) (q : isLt (97 + k.toNat) → P (.str (S [97 + k.toNat]))) : Op (oIdx (.str (S lt26)) (.int k) S0) P := o_idxS (at_lt26 h0 h1) (q ⟨by omega, by omega⟩)
theorem SOk_lt26 : SOk (S lt26) := by rw [← lt26_eq]; decide +kernel
end
end Ev
namespace Ev
open PySem PySem.Spec PyProof.Rows L2
/-! Fw15: more of the language. -/
section
/-- xs[::-1] -/
def lRev (a : TV) : TL := fun ρ S => (a ρ S).bind fun x S => match deref S x with
  | .frl xs => .ok (xs.reverse, none) S
  | _ => .bad
section
variable {QL : LL → Store → Prop} {E : PX → Store → Prop} {ρ : Env'} {S : Store} {a : TV}
def RevR (x : PV) (S : Store) (Q : LL → Store → Prop) : Prop := match deref S x with
  | .frl xs => Q (xs.reverse, none) S
  | _ => False
theorem w_rev (h : W (a ρ S) (fun x S => RevR x S QL) E) : W (lRev a ρ S) QL E := by
  refine W_bind (W_mono h (fun x S h => ?_) fun _ _ h => h)
  unfold RevR at h
  split at h <;> simp_all only [W]
end
end
end Ev
namespace Ev
open PySem PySem.Spec PyProof.Rows L2 SX
local macro_rules | `(tactic| walk_at "w") => `(tactic| first
  | (with_reducible apply s_set; focus (repeat first | exact SetR.zero | apply SetR.succ))
  | (with_reducible apply w_get; focus (repeat first | exact GetR.zero | apply GetR.succ))
  | with_reducible first
  | refine s_seqN ?_ | refine s_seq ?_ | refine q_nx ?_ | refine q_ret ?_ | refine q_brk ?_ | refine q_cnt ?_ | refine q_exc ?_
  | refine s_nil ?_ | refine s_pass ?_ | refine s_brk ?_ | refine s_cnt ?_ | refine s_expr ?_ | refine s_ret ?_ | refine s_retN ?_ | refine s_if ?_ | refine s_unp ?_ | refine s_sub ?_ | refine s_for ?_
  | refine w_c ?_ | (refine w_str ?_ ?_; decide +kernel) | refine w_bin ?_ | refine w_un ?_ | refine w_chn ?_ | refine w_bV ?_ | refine w_bBl ?_ | refine w_bAnd ?_ | refine w_bOr ?_ | refine w_bNot ?_ | refine w_bYes ?_
  | refine w_vAnd ?_ | refine w_vOr ?_ | refine w_vNot ?_ | refine w_vIf ?_ | refine w_nil ?_ | refine w_cons ?_ | refine w_tup ?_ | refine w_disp ?_ | refine w_new ?_ | refine lnew ?_ | refine w_oNone ?_ | refine w_oSome ?_ | refine w_slc ?_ | refine w_lslc ?_ | refine slcT ?_ | refine slcS ?_
  | refine w_call ?_ | refine w_callL ?_ | refine w_lcallL ?_ | refine w_lcallN ?_ | refine w_isi ?_ | refine w_app ?_ | refine w_app0 ?_ | refine w_lval ?_ | refine w_cat ?_ | refine w_eqL ?_ | refine w_lm ?_ | refine w_ext ?_ | refine w_sm ?_ | refine w_sm0 ?_ | refine w_lsm ?_ | refine w_smL ?_ | refine w_dic0 ?_ | refine w_dic1 ?_ | refine w_iV ?_ | refine w_iL ?_ | refine il_none ?_ | refine il_some ?_ | refine w_rng ?_ | refine w_comp ?_ | refine w_rev ?_ | refine w_lenSet ?_ | refine w_extV ?_
  | refine o_addI ?_ | refine o_iadd ?_ | refine o_sub ?_ | refine o_neg ?_ | refine o_ltI ?_ | refine o_le ?_ | refine o_gt ?_ | refine o_ge ?_ | refine o_is ?_ | refine o_isNot ?_ | refine o_lenT ?_ | refine o_lenF ?_ | refine o_lenS ?_ | refine o_intB ?_ | refine o_intI ?_ | refine o_max ?_ | refine o_min ?_ | refine o_tupT ?_ | refine o_eqI ?_ | refine o_eqS ?_ | refine o_eqB ?_
  | refine b_is ?_ | refine i_is ?_ | refine s_is ?_ | refine i_tup ?_ | refine i_str ?_ | refine tr_bl ?_ | refine ty_bl ?_ | refine ty_str ?_ | refine ty_tup ?_ | refine ty_int ?_ | refine k_s ?_ | refine k_i ?_
  | refine Br.tt ?_ | refine Br.ff ?_ | refine Br.nf ?_ | refine Br.nt ?_ | refine f_ret ?_ | refine f_nx ?_ | refine f_body ?_)
/-! Fw16: several things that change; names that are drawn. -/
section
/-- a comprehension over things that stand for others -/
theorem compL_A {α : Type} {tg : Tgt} {c : TB} {el : TV} {ρ : Env'} {S : Store} {l : LI} (e f : α → PV) (p : α → Bool) (lk : lkI l S) : ∀ (os : List α) (acc : List PV), (∀ o ∈ os, ∃ ρ1, tg (e o) ρ = some ρ1 ∧ c ρ1 S = .ok (p o) S ∧ (p o = true → el ρ1 S = .ok (f o) S)) →
    compL tg c el ρ l (os.map e) acc S = .ok (acc ++ (os.filter p).map f, none) S
  | [], acc, _ => by rw [List.map_nil]; unfold compL; rw [if_pos lk]; simp
  | x :: r, acc, h => by
    obtain ⟨ρ1, h1, h2, h3⟩ := h x (by simp)
    rw [List.map_cons]
    unfold compL
    rw [if_pos lk, h1]
    dsimp only
    rw [h2]
    cases hp : p x with
    | true =>
      dsimp only
      rw [h3 hp]
      dsimp only
      rw [compL_A e f p lk r _ fun y hy => h y (by simp [hy])]
      simp [hp]
    | false =>
      dsimp only
      rw [compL_A e f p lk r _ fun y hy => h y (by simp [hy])]
      simp [hp]
theorem w_pureF {α : Type} {tg : Tgt} {c : TB} {el : TV} {ρ : Env'} {S : Store} {j : Option Lk} {Q : LL → Store → Prop} {E : PX → Store → Prop} {os : List α} {e : α → PV} (f : α → PV) (p : α → Bool) (lk : lkI (os.map e, j) S)
    (h : ∀ o ∈ os, Op (tg (e o) ρ) fun ρ1 => W (c ρ1 S) (fun k S1 => (k = p o ∧ S1 = S) ∧ (p o = true → W (el ρ1 S) (fun y S2 => y = f o ∧ S2 = S) fun _ _ => False)) fun _ _ => False) (q : Q ((os.filter p).map f, none) S) : W (compL tg c el ρ (os.map e, j) (os.map e, j).1 [] S) Q E := by
  rw [show (os.map e, j).1 = os.map e from rfl, compL_A e f p lk os [] fun o ho => ?_]
  · exact q
  · have h := h o ho
    cases hf : tg (e o) ρ with
    | none => rw [hf] at h; exact h.elim
    | some u =>
      rw [hf] at h
      obtain ⟨k, S1, h3, ⟨rfl, rfl⟩, h4⟩ := W.ok h
      refine ⟨u, rfl, h3, fun hp => ?_⟩
      obtain ⟨y, S2, h5, rfl, rfl⟩ := W.ok (h4 hp)
      exact h5
theorem w_pureA {α : Type} {tg : Tgt} {el : TV} {ρ : Env'} {S : Store} {j : Option Lk} {Q : LL → Store → Prop} {E : PX → Store → Prop} {os : List α} {e : α → PV} (f : α → PV) (lk : lkI (os.map e, j) S)
    (h : ∀ o ∈ os, Op (tg (e o) ρ) fun ρ1 => W (el ρ1 S) (fun y S2 => y = f o ∧ S2 = S) fun _ _ => False) (q : Q (os.map f, none) S) : W (compL tg bYes el ρ (os.map e, j) (os.map e, j).1 [] S) Q E := by
  refine w_pureF f (fun _ => true) lk (fun o ho => ?_) (by rw [List.filter_eq_self.mpr (fun _ _ => rfl)]; exact q)
  have h := h o ho
  cases hf : tg (e o) ρ with
  | none => rw [hf] at h; exact h.elim
  | some u => rw [hf] at h; exact ⟨⟨rfl, rfl⟩, fun _ => h⟩
section
variable {L : List (Nat × (PObj → Prop))} {P : PObj → Prop} {i : Nat} {S S' T U : Store}
theorem FrM.setL (a : FrM L S T) {j : Nat} (hj : S.length ≤ j) (hi : ∀ p ∈ L, p.1 ≠ j) (o : PObj) : FrM L S (T.set j o) := by
  refine ⟨by simp [a.le], fun k hk hki => ?_, fun p hp => ?_⟩
  · rw [List.getElem?_set_ne (by omega)]; exact a.get k hk hki
  · obtain ⟨o', h, q⟩ := a.own p hp
    exact ⟨o', by rw [List.getElem?_set_ne (Ne.symm (hi p hp))]; exact h, q⟩
theorem FrM.gc (a : FrM L S T) (hl : ∀ p ∈ L, ∀ o n, p.2 o → o.low n = true) : gcOk S T := ⟨a.le, fun j hj => by
  by_cases h : ∀ p ∈ L, p.1 ≠ j
  · exact .inl (a.get j hj h)
  · have h : ∃ p ∈ L, p.1 = j := Classical.byContradiction fun hn => h fun p hp e => hn ⟨p, hp, e⟩
    obtain ⟨p, hp, e⟩ := h
    obtain ⟨o, h1, q⟩ := a.own p hp
    exact .inr ⟨o, by rw [← e]; exact h1, hl p hp o _ q⟩⟩
theorem FrM.cut (a : FrM L S T) (hi : ∀ p ∈ L, p.1 < S.length) : FrM L S (T.take S.length) := by
  refine ⟨by simp [a.le], fun j hj h => ?_, fun p hp => ?_⟩
  · rw [List.getElem?_take_of_lt hj]; exact a.get j hj h
  · obtain ⟨o, h, q⟩ := a.own p hp
    exact ⟨o, by rw [List.getElem?_take_of_lt (hi p hp)]; exact h, q⟩
variable {Q : PV → Store → Prop} {E : PX → Store → Prop} {v : PV}
theorem g_frMNew (a : FrM L S T) (hl : ∀ p ∈ L, ∀ o n, p.2 o → o.low n = true) (hi : ∀ p ∈ L, p.1 < S.length) {j : Nat} {o : PObj} (hj : S.length ≤ j) (h : T[j]? = some o) (ho : o.low S.length = true) (q : ∀ U, FrM L S U → U.length = S.length + 1 → U[S.length]? = some o → Q (.ref S.length) U) : W (gcV S (.ref j) T) Q E := by
  unfold gcV
  have hv : ¬ (PV.ref j).low S.length = true := by simp [PV.low]; omega
  rw [if_pos (a.gc hl), if_neg hv]
  dsimp only
  rw [h]
  dsimp only
  rw [if_pos ⟨hj, ho⟩]
  have hlen : (T.take S.length).length = S.length := by simp only [List.length_take]; have := a.le; omega
  refine q _ ((a.cut hi).trans ((Kp.app _ _).frM (a.cut hi).own)) (by simp [hlen]) ?_
  rw [List.getElem?_append_right (by omega), hlen, Nat.sub_self]; rfl
end
end
/-! Fw17: words that bar, names unlike each other. -/
section
section
variable {n : Nat} {Q : PV → Store → Prop} {E : PX → Store → Prop} {S0 : Store}
/-! the barred words -/
theorem split_bar : mSplit ("make use ask call see blind move leave loop out back fit bare as kind def main rest gone" : Str) [.str (" " : Str)] = some (barL.map .str) := by
  have e : Txt.split ("make use ask call see blind move leave loop out back fit bare as kind def main rest gone" : Str) (" " : Str) = barL := by decide +kernel
  unfold mSplit
  dsimp only
  rw [e, if_pos]
  decide +kernel
/-! names unlike each other -/
theorem good_S {a : List Nat} : good (S a) ↔ 1 ≤ a.length ∧ a.length ≤ 8 ∧ ∀ c ∈ a, isLt c := by
  unfold good; rw [len_S]
def wd (p : Nat) (t : List Nat) (k : Nat) : Str := S ((97 + (p + k) % 26) :: t)
theorem tails_ok : (barL.map fun x => x.cps.toList.tail).Nodup := by decide +kernel
theorem one_tail (t : List Nat) : (barL.filter fun x => x.cps.toList.tail == t).length ≤ 1 := by
  have h : ((barL.filter fun x => x.cps.toList.tail == t).map fun x => x.cps.toList.tail).Nodup := tails_ok.sublist (List.Sublist.map _ List.filter_sublist)
  have e : ∀ x ∈ (barL.filter fun x => x.cps.toList.tail == t), x.cps.toList.tail = t := fun x hx => by
    simpa using (List.mem_filter.mp hx).2
  match hL : (barL.filter fun x => x.cps.toList.tail == t) with
  | [] => rw [hL]; simp
  | [x] => rw [hL]; simp
  | x :: y :: r =>
    rw [hL] at h e
    exfalso
    simp only [List.map_cons, List.nodup_cons, List.mem_cons] at h
    exact h.1 (.inl ((e x (by simp)).trans (e y (by simp)).symm))
theorem free_rot {us : List Str} (hu : us.length ≤ 11) (p : Nat) (t : List Nat) : ∃ K, K < 26 ∧ wd p t K ∉ us ∧ wd p t K ∉ barL := by
  refine Classical.byContradiction fun hn => ?_
  have h : ∀ K, K < 26 → wd p t K ∈ us ++ barL.filter fun x => x.cps.toList.tail == t := by
    intro K hK
    rw [List.mem_append, List.mem_filter]
    by_cases h1 : wd p t K ∈ us
    · exact .inl h1
    · by_cases h2 : wd p t K ∈ barL
      · exact .inr ⟨h2, by simp [wd]⟩
      · exact (hn ⟨K, hK, h1, h2⟩).elim
  have nd : ((List.range 26).map (wd p t)).Nodup := by
    refine List.pairwise_map.mpr (List.Pairwise.imp_of_mem (fun {a b} ha hb hab e => ?_) List.pairwise_lt_range)
    have := S_inj e
    simp only [List.mem_range] at ha hb
    simp only [List.cons.injEq] at this
    have := this.1
    have hab : a < b := hab
    omega
  have := nd.length_le_of_subset (l₂ := us ++ barL.filter fun x => x.cps.toList.tail == t) (fun x hx => by
    obtain ⟨K, hK, rfl⟩ := List.mem_map.mp hx
    exact h K (by simpa using hK))
  rw [List.length_append, List.length_map, List.length_range] at this
  have := one_tail t
  omega
/-! a well -/
end
end
end Ev
namespace Ev
open PySem PySem.Spec PyProof.Rows
/-! Fw18: how many texts are unlike: the number of a set's texts. -/
section
theorem unlikes_snoc (xs : List Str) (x : Str) : unlikes (xs ++ [x]) = oneMore (unlikes xs) x := by
  unfold unlikes; rw [List.foldl_append]; rfl
theorem mem_oneMore {l : List Str} {x k : Str} : k ∈ oneMore l x ↔ k ∈ l ∨ k = x := by
  unfold oneMore
  by_cases h : x ∈ l
  · rw [if_pos h]
    exact ⟨.inl, fun e => e.elim _root_.id fun e => by rw [e]; exact h⟩
  · rw [if_neg h]; simp
theorem len_oneMore (l : List Str) (x : Str) : (oneMore l x).length = if decide (x ∈ l) = true then l.length else l.length + 1 := by
  unfold oneMore
  by_cases h : x ∈ l <;> simp [h]
theorem unlikes_le (xs : List Str) : ∀ i, (unlikes (xs.take i)).length ≤ i
  | 0 => by simp [unlikes]
  | i + 1 => by
    have ih := unlikes_le xs i
    by_cases h : i < xs.length
    · rw [List.take_succ_eq_append_getElem h, unlikes_snoc, len_oneMore]
      split <;> omega
    · rw [List.take_of_length_le (by omega)]
      rw [List.take_of_length_le (by omega)] at ih
      omega
section
variable {prog : Program} {w : World} {A : Around} {R : Result → Shared → Prop} {I : Addr} {fp wr : List Addr} {G : Array GenState → Array GenState → Prop} {n : Nat} {P : Nat → Value → Prop} {St : Nat → Shared → Prop}
end
/-! ### set(xs) -/
/-- a set that holds nothing yet -/
abbrev bareSet (led : Bool) : Obj := { cls := .type "set", dict := none, data := .set #[] 0 (.fresh 0 0 led) }
end
end Ev
namespace Ev
open PySem PySem.Spec PyProof.Rows L2
/-! Fw19: len(set(xs)) of texts, as an expression. -/
section
def lenU (xs : List PV) (S : Store) : Res PV := match asStr xs with
  | some bs => if bs.length ≤ 4000 then .ok (.int (unlikes bs).length) S else .bad
  | none => .bad
def vLenSet (a : TV) : TV := fun ρ S => (a ρ S).bind fun x S => match deref S x with
  | .frl xs => lenU xs S
  | .tup xs => lenU xs S
  | _ => .bad
section
variable {X : Cx} {W : WX} {a : Expr} {ta : TE} {ea : TV} {p p2 q pos : Pos}
theorem unlikes_len (xs : List Str) : (unlikes xs).length ≤ xs.length := by
  have := unlikes_le xs xs.length
  rwa [List.take_length] at this
end
section
variable {Q : PV → Store → Prop} {E : PX → Store → Prop} {ρ : Env'} {S : Store} {a : TV}
def LenR (x : PV) (S : Store) (Q : PV → Store → Prop) : Prop := match deref S x with
  | .frl xs => Op (asStr xs) fun bs => bs.length ≤ 4000 ∧ Q (.int (unlikes bs).length) S
  | .tup xs => Op (asStr xs) fun bs => bs.length ≤ 4000 ∧ Q (.int (unlikes bs).length) S
  | _ => False
theorem w_lenSet (h : W (a ρ S) (fun x S => LenR x S Q) E) : W (vLenSet a ρ S) Q E := by
  refine W_bind (W_mono h (fun x S h => ?_) fun _ _ h => h)
  have one : ∀ xs, Op (asStr xs) (fun bs => bs.length ≤ 4000 ∧ Q (.int (unlikes bs).length) S) → W (lenU xs S) Q E := by
    intro xs h
    unfold lenU
    cases hb : asStr xs with
    | none => rw [hb] at h; exact h.elim
    | some bs =>
      rw [hb] at h
      dsimp only
      rw [if_pos h.1]
      exact h.2
  unfold LenR at h
  cases hd : deref S x with
  | frl xs => rw [hd] at h; exact one xs h
  | tup xs => rw [hd] at h; exact one xs h
  | _ => rw [hd] at h; exact h.elim
end
theorem snocInd {α : Type} {P : List α → Prop} (h0 : P []) (h1 : ∀ l x, P l → P (l ++ [x])) (l : List α) : P l := by
  rw [← List.reverse_reverse l]
  induction l.reverse with
  | nil => exact h0
  | cons x r ih => rw [List.reverse_cons]; exact h1 _ _ ih
end
end Ev
namespace Ev
open PySem PySem.Spec PyProof.Rows L2 SX
local macro_rules | `(tactic| walk_at "w") => `(tactic| first
  | (with_reducible apply s_set; focus (repeat first | exact SetR.zero | apply SetR.succ))
  | (with_reducible apply w_get; focus (repeat first | exact GetR.zero | apply GetR.succ))
  | with_reducible first
  | refine s_seqN ?_ | refine s_seq ?_ | refine q_nx ?_ | refine q_ret ?_ | refine q_brk ?_ | refine q_cnt ?_ | refine q_exc ?_
  | refine s_nil ?_ | refine s_pass ?_ | refine s_brk ?_ | refine s_cnt ?_ | refine s_expr ?_ | refine s_ret ?_ | refine s_retN ?_ | refine s_if ?_ | refine s_unp ?_ | refine s_sub ?_ | refine s_for ?_
  | refine w_c ?_ | (refine w_str ?_ ?_; decide +kernel) | refine w_bin ?_ | refine w_un ?_ | refine w_chn ?_ | refine w_bV ?_ | refine w_bBl ?_ | refine w_bAnd ?_ | refine w_bOr ?_ | refine w_bNot ?_ | refine w_bYes ?_
  | refine w_vAnd ?_ | refine w_vOr ?_ | refine w_vNot ?_ | refine w_vIf ?_ | refine w_nil ?_ | refine w_cons ?_ | refine w_tup ?_ | refine w_disp ?_ | refine w_new ?_ | refine lnew ?_ | refine w_oNone ?_ | refine w_oSome ?_ | refine w_slc ?_ | refine w_lslc ?_ | refine slcT ?_ | refine slcS ?_
  | refine w_call ?_ | refine w_callL ?_ | refine w_lcallL ?_ | refine w_lcallN ?_ | refine w_isi ?_ | refine w_app ?_ | refine w_app0 ?_ | refine w_lval ?_ | refine w_cat ?_ | refine w_eqL ?_ | refine w_lm ?_ | refine w_ext ?_ | refine w_sm ?_ | refine w_sm0 ?_ | refine w_lsm ?_ | refine w_smL ?_ | refine w_dic0 ?_ | refine w_dic1 ?_ | refine w_iV ?_ | refine w_iL ?_ | refine il_none ?_ | refine il_some ?_ | refine w_rng ?_ | refine w_comp ?_ | refine w_rev ?_ | refine w_lenSet ?_ | refine w_extV ?_
  | refine o_addI ?_ | refine o_iadd ?_ | refine o_sub ?_ | refine o_neg ?_ | refine o_ltI ?_ | refine o_le ?_ | refine o_gt ?_ | refine o_ge ?_ | refine o_is ?_ | refine o_isNot ?_ | refine o_lenT ?_ | refine o_lenF ?_ | refine o_lenS ?_ | refine o_intB ?_ | refine o_intI ?_ | refine o_max ?_ | refine o_min ?_ | refine o_tupT ?_ | refine o_eqI ?_ | refine o_eqS ?_ | refine o_eqB ?_
  | refine b_is ?_ | refine i_is ?_ | refine s_is ?_ | refine i_tup ?_ | refine i_str ?_ | refine tr_bl ?_ | refine ty_bl ?_ | refine ty_str ?_ | refine ty_tup ?_ | refine ty_int ?_ | refine k_s ?_ | refine k_i ?_
  | refine Br.tt ?_ | refine Br.ff ?_ | refine Br.nf ?_ | refine Br.nt ?_ | refine f_ret ?_ | refine f_nx ?_ | refine f_body ?_)
/-! Fw20: kinds as data, the drawing of kinds. -/
section
def eOut (o : Out) : PV := .tup [.str o.1, eO o.2.1, eO o.2.2]
def eOuts (os : List Out) : PV := .tup (os.map eOut)
def eDeed (d : Deed) : PV := .tup [.str d.1, eOuts d.2]
def eSt (s : State) : PV := .tup [.str s.1, .bl s.2.1, .tup (s.2.2.map eDeed)]
def eK (nm : Str) (sts : List State) : PV := .tup [.str nm, .tup (sts.map eSt)]
/-! data -/
mutual
theorem eqv_refl : ∀ x : PV, x.dat = true → PV.eqv x x = true
  | .non, _ => rfl
  | .bl b, _ => by simp [PV.eqv]
  | .int b, _ => by simp [PV.eqv]
  | .str b, _ => by simp [PV.eqv]
  | .tup xs, h => by simp only [PV.eqv]; exact eqvs_refl xs h
  | .frl xs, h => by simp only [PV.eqv]; exact eqvs_refl xs h
  | .ref _, h => by simp [PV.dat] at h
theorem eqvs_refl : ∀ xs : List PV, PV.dats xs = true → PV.eqvs xs xs = true
  | [], _ => rfl
  | x :: xs, h => by
    simp only [PV.dats, Bool.and_eq_true] at h
    simp only [PV.eqvs, eqv_refl x h.1, eqvs_refl xs h.2, Bool.and_self]
end
theorem dat_O (o : Option Str) : (eO o).dat = true := by cases o <;> rfl
theorem dat_Out (o : Out) : (eOut o).dat = true := by simp [eOut, PV.dat, PV.dats, dat_O]
theorem dat_Outs (os : List Out) : (eOuts os).dat = true := by
  simp only [eOuts, PV.dat]
  exact dats_iff.mpr fun x hx => by obtain ⟨o, _, rfl⟩ := List.mem_map.mp hx; exact dat_Out o
theorem dat_Deed (o : Deed) : (eDeed o).dat = true := by simp [eDeed, PV.dat, PV.dats, dat_Outs]
theorem dat_Deeds (os : List Deed) : (PV.tup (os.map eDeed)).dat = true := by
  simp only [PV.dat]
  exact dats_iff.mpr fun x hx => by obtain ⟨o, _, rfl⟩ := List.mem_map.mp hx; exact dat_Deed o
theorem dat_St (o : State) : (eSt o).dat = true := by
  have := dat_Deeds o.2.2
  simp only [PV.dat] at this
  simp [eSt, PV.dat, PV.dats, this]
theorem dats_Sts (os : List State) : PV.dats (os.map eSt) = true := dats_iff.mpr fun x hx => by obtain ⟨o, _, rfl⟩ := List.mem_map.mp hx; exact dat_St o
theorem dat_K (nm : Str) (sts : List State) : (eK nm sts).dat = true := by simp [eK, PV.dat, PV.dats, dats_Sts]
theorem eqS_self {S0 : Store} {x : PV} (hx : deref S0 x = x) (h : x.dat = true) (hd : x.dep ≤ 190) : eqS S0 x x = some true := by
  rw [eqS_dat (by rw [hx]; exact h) (by rw [hx]; exact h) (by rw [hx]; exact hd), hx, eqv_refl x h]
end
/-! Fw21: what a name is. -/
section
section
variable {n : Nat} {Q : PV → Store → Prop} {E : PX → Store → Prop} {S0 : Store}
/-! names -/
def tyd (S0 : Store) (x : PV) : Prop := ∃ t, tyN S0 x = some t
end
/-! typed at every depth -/
mutual
def tyD (S0 : Store) : PV → Prop
  | .tup xs => tyDs S0 xs
  | .ref j => tyd S0 (.ref j)
  | _ => True
def tyDs (S0 : Store) : List PV → Prop
  | [] => True
  | x :: xs => tyD S0 x ∧ tyDs S0 xs
end
theorem tyD.ty {S0 : Store} {x : PV} (h : tyD S0 x) : tyd S0 x := by
  cases x with
  | ref j => simpa only [tyD] using h
  | _ => exact ⟨_, rfl⟩
end
end Ev
namespace Ev
/-! Fw22: a list made longer by a tuple. -/
section
open PySem PySem.Spec PyProof.Rows L2
section
variable {X : Cx} {W : WX} {o e : Expr} {eo ea : TV} {apos cpos : Pos}
def vExtV (o a : TV) : TV := fun ρ S => (o ρ S).bind fun x S => match x with
  | .ref j => match S[j]? with
    | some (.lst _) => (a ρ S).bind fun y S => match S[j]?, y with
      | some (.lst xs), .tup ys => if xs.length + ys.length ≤ sizeLine then .ok .non (S.set j (.lst (xs ++ ys))) else .bad
      | _, _ => .bad
    | _ => .bad
  | _ => .bad
end
section
variable {Q : PV → Store → Prop} {E : PX → Store → Prop} {ρ : Env'} {S : Store} {o a : TV}
def ExtR (j : Nat) (y : PV) (S : Store) (Q : PV → Store → Prop) : Prop := match S[j]?, y with
  | some (.lst xs), .tup ys => xs.length + ys.length ≤ sizeLine ∧ Q .non (S.set j (.lst (xs ++ ys)))
  | _, _ => False
theorem w_extV (h : W (o ρ S) (fun x S => Op (getL S x) fun _ => W (a ρ S) (fun y S => ExtR x.num y S Q) E) E) : W (vExtV o a ρ S) Q E := by
  refine W_bind (W_mono h (fun x S h => ?_) fun _ _ h => h)
  cases hg : getL S x with
  | none => rw [hg] at h; exact h.elim
  | some xs =>
    rw [hg] at h
    obtain ⟨e1, e2⟩ := getL_num hg
    generalize hx : x.num = j at *
    subst e1
    dsimp only
    rw [e2]
    refine W_bind (W_mono h (fun y S h => ?_) fun _ _ h => h)
    unfold ExtR at h
    split at h
    · rename_i us ys hS
      try rw [hS]
      try dsimp only
      rw [if_pos h.1]; exact h.2
    · exact h.elim
end
end
end Ev
namespace Ev
open PySem PySem.Spec PyProof.Rows L2 SX
local macro_rules | `(tactic| walk_at "w") => `(tactic| first
  | (with_reducible apply s_set; focus (repeat first | exact SetR.zero | apply SetR.succ))
  | (with_reducible apply w_get; focus (repeat first | exact GetR.zero | apply GetR.succ))
  | with_reducible first
  | refine s_seqN ?_ | refine s_seq ?_ | refine q_nx ?_ | refine q_ret ?_ | refine q_brk ?_ | refine q_cnt ?_ | refine q_exc ?_
  | refine s_nil ?_ | refine s_pass ?_ | refine s_brk ?_ | refine s_cnt ?_ | refine s_expr ?_ | refine s_ret ?_ | refine s_retN ?_ | refine s_if ?_ | refine s_unp ?_ | refine s_sub ?_ | refine s_for ?_
  | refine w_c ?_ | (refine w_str ?_ ?_; decide +kernel) | refine w_bin ?_ | refine w_un ?_ | refine w_chn ?_ | refine w_bV ?_ | refine w_bBl ?_ | refine w_bAnd ?_ | refine w_bOr ?_ | refine w_bNot ?_ | refine w_bYes ?_
  | refine w_vAnd ?_ | refine w_vOr ?_ | refine w_vNot ?_ | refine w_vIf ?_ | refine w_nil ?_ | refine w_cons ?_ | refine w_tup ?_ | refine w_disp ?_ | refine w_new ?_ | refine lnew ?_ | refine w_oNone ?_ | refine w_oSome ?_ | refine w_slc ?_ | refine w_lslc ?_ | refine slcT ?_ | refine slcS ?_
  | refine w_call ?_ | refine w_callL ?_ | refine w_lcallL ?_ | refine w_lcallN ?_ | refine w_isi ?_ | refine w_app ?_ | refine w_app0 ?_ | refine w_lval ?_ | refine w_cat ?_ | refine w_eqL ?_ | refine w_lm ?_ | refine w_ext ?_ | refine w_sm ?_ | refine w_sm0 ?_ | refine w_lsm ?_ | refine w_smL ?_ | refine w_dic0 ?_ | refine w_dic1 ?_ | refine w_iV ?_ | refine w_iL ?_ | refine il_none ?_ | refine il_some ?_ | refine w_rng ?_ | refine w_comp ?_ | refine w_rev ?_ | refine w_lenSet ?_ | refine w_extV ?_
  | refine o_addI ?_ | refine o_iadd ?_ | refine o_sub ?_ | refine o_neg ?_ | refine o_ltI ?_ | refine o_le ?_ | refine o_gt ?_ | refine o_ge ?_ | refine o_is ?_ | refine o_isNot ?_ | refine o_lenT ?_ | refine o_lenF ?_ | refine o_lenS ?_ | refine o_intB ?_ | refine o_intI ?_ | refine o_max ?_ | refine o_min ?_ | refine o_tupT ?_ | refine o_eqI ?_ | refine o_eqS ?_ | refine o_eqB ?_
  | refine b_is ?_ | refine i_is ?_ | refine s_is ?_ | refine i_tup ?_ | refine i_str ?_ | refine tr_bl ?_ | refine ty_bl ?_ | refine ty_str ?_ | refine ty_tup ?_ | refine ty_int ?_ | refine k_s ?_ | refine k_i ?_
  | refine Br.tt ?_ | refine Br.ff ?_ | refine Br.nf ?_ | refine Br.nt ?_ | refine f_ret ?_ | refine f_nx ?_ | refine f_body ?_)
/-! Fw23: what a kind is, as the program looks at it. -/
/-! Fw24: what a deed is, as the program looks at it. -/
section
end
/-! Fw25: what a state is, as the program looks at it. -/
/-! Fw26: all outs of a kind. -/
/-! Fw27: what a kind is, as the program looks at it (begun). -/
/-! Fw28: is_kind, its last part. -/
/-! Fw29: is_kind, its middle. -/
/-! Fw30: is_kind. -/
/-! Fw31: is_book. -/
/-! Fw32: what the program tells of a kind. -/
section
noncomputable def bFirst : TSt :=   (sSeq (sRet (vBin oIdx (vBin oIdx (vBin oIdx (vVar 0) (vC (.int 1))) (vC (.int 0))) (vC (.int 0)))) sNil)
noncomputable def bStateOf : TSt :=   (sSeq (sFor (tgN 2) (iV (vBin oIdx (vVar 0) (vC (.int 1)))) (sSeq (sIf (bBl (vBin oEq (vBin oIdx (vVar 2) (vC (.int 0))) (vVar 1))) (sSeq (sRet (vVar 2)) sNil) sNil) sNil)) (sSeq (sRet (vTup (vsCons (vVar 1) (vsCons (vC (.bl false)) (vsCons (vTup vsNil) vsNil))))) sNil))
noncomputable def bMayLeft : TSt :=   (sSeq (sRet (vBin oIdx (vApp (fnV 2 3 bStateOf) (vsCons (vVar 0) (vsCons (vVar 1) vsNil))) (vC (.int 1)))) sNil)
section
variable {n : Nat} {Q : PV → Store → Prop} {E : PX → Store → Prop} {S0 : Store} {nm z d : Str} {sts : List State}
theorem first_state_w {s : State} (q : Q (.str s.1) S0) : W (fnV 1 1 bFirst [eK nm (s :: sts)] S0) Q E := by
  rw [show fnV 1 1 bFirst [eK nm (s :: sts)] S0 = fin S0 (bFirst [some (eK nm (s :: sts))] S0) from fnV_eq 1 1 _ _ _ rfl]
  refine f_body ?_
  unfold bFirst eK
  repeat walk_at "w"
  refine o_idxT (at1 _ _ _) ?_
  repeat walk_at "w"
  refine o_idxT (at0 (eSt s) _) ?_
  repeat walk_at "w"
  refine o_idxT (at0 (PV.str s.1) _) ?_
  repeat walk_at "w"
  exact g_keep (Kp.refl _) (by rfl) q
theorem state_of_w (q : Q (eSt (stOf sts z)) S0) : W (fnV 2 3 bStateOf [eK nm sts, .str z] S0) Q E := by
  rw [show fnV 2 3 bStateOf [eK nm sts, .str z] S0 = fin S0 (bStateOf [some (eK nm sts), some (.str z), none] S0) from fnV_eq 2 3 _ _ _ rfl]
  refine f_body ?_
  unfold bStateOf
  repeat walk_at "w"
  unfold eK
  refine o_idxT (at1 _ _ _) ?_
  repeat walk_at "w"
  refine s_loop (fun rest ρ T => T = S0 ∧ ∃ (ss : List State) (e2 : Option PV), rest = ss.map eSt ∧ stOf ss z = stOf sts z ∧ ρ = [some (eK nm sts), some (.str z), e2]) ⟨rfl, sts, _, rfl, rfl, rfl⟩ (fun x rest ρ T h => ?_) (fun ρ T h => ⟨trivial, ?_⟩)
  · obtain ⟨rfl, ss, e2, hr, hs, rfl⟩ := h
    cases ss with
    | nil => cases hr
    | cons s ss =>
      simp only [List.map_cons, List.cons.injEq] at hr
      obtain ⟨rfl, rfl⟩ := hr
      refine ⟨trivial, t_n (.succ (.succ .zero)) ?_⟩
      repeat walk_at "w"
      refine o_idxT (at0 (PV.str s.1) _) ?_
      repeat walk_at "w"
      cases hb : s.1 == z
      · repeat walk_at "w"
        refine ⟨rfl, ss, _, rfl, ?_, rfl⟩
        rw [← hs]
        unfold stOf
        rw [List.find?_cons, hb]
      · repeat walk_at "w"
        have e : stOf (s :: ss) z = s := by
          unfold stOf
          rw [List.find?_cons, hb]; rfl
        rw [← hs, e] at q
        exact g_keep (Kp.refl _) (low_dat _ _ (dat_St s)) q
  · obtain ⟨rfl, ss, e2, hr, hs, rfl⟩ := h
    cases ss with
    | cons s ss => cases hr
    | nil =>
      repeat walk_at "w"
      refine ⟨Nat.zero_le _, ?_⟩
      repeat walk_at "w"
      refine ⟨by have := sizeLine_eq; simp; omega, ?_⟩
      repeat walk_at "w"
      rw [← hs] at q
      exact g_keep (Kp.refl _) (by rfl) q
theorem may_be_left_w (q : Q (.bl (stOf sts z).2.1) S0) : W (fnV 2 2 bMayLeft [eK nm sts, .str z] S0) Q E := by
  rw [show fnV 2 2 bMayLeft [eK nm sts, .str z] S0 = fin S0 (bMayLeft [some (eK nm sts), some (.str z)] S0) from fnV_eq 2 2 _ _ _ rfl]
  refine f_body ?_
  unfold bMayLeft
  repeat walk_at "w"
  refine state_of_w ?_
  repeat walk_at "w"
  refine o_idxT (at1 _ _ _) ?_
  repeat walk_at "w"
  exact g_keep (Kp.refl _) (by rfl) q
theorem isNon_O (o : Option Str) : (eO o).isNon = o.isNone := by cases o <;> rfl
end
end
/-! Fw33: names that are drawn are none of the barred words. -/
/-! Fw34: a kind that is drawn is one. -/
section
end
end Ev
/-! Fw35: is True, is False; a wider walk; loops that look for something. -/
namespace Ev
open PySem PySem.Spec PyProof.Rows L2 SX
def oIsB (x y : PV) (_ : Store) : Option PV := match x, y with
  | .bl a, .bl b => some (.bl (decide (a = b)))
  | _, _ => none
def oIsNotB (x y : PV) (_ : Store) : Option PV := match x, y with
  | .bl a, .bl b => some (.bl (!decide (a = b)))
  | _, _ => none
section
variable {P : PV → Prop} {S : Store}
theorem o_neI {a b : Int} (q : P (.bl (!(a == b)))) : Op (oNe (.int a) (.int b) S) P := o_ne (eqS_int S a b) q
theorem o_neS {a b : Str} (q : P (.bl (!(a == b)))) : Op (oNe (.str a) (.str b) S) P := o_ne (eqS_str S a b) q
theorem o_neB {a b : Bool} (q : P (.bl (!(a == b)))) : Op (oNe (.bl a) (.bl b) S) P := o_ne (eqS_bl S a b) q
theorem o_isT {a : Bool} (q : P (.bl a)) : Op (oIsB (.bl a) (.bl true) S) P := Op.of (by cases a <;> rfl) q
theorem o_isF {a : Bool} (q : P (.bl (!a))) : Op (oIsB (.bl a) (.bl false) S) P := Op.of (by cases a <;> rfl) q
theorem o_isNT {a : Bool} (q : P (.bl (!a))) : Op (oIsNotB (.bl a) (.bl true) S) P := Op.of (by cases a <;> rfl) q
theorem o_isNF {a : Bool} (q : P (.bl a)) : Op (oIsNotB (.bl a) (.bl false) S) P := Op.of (by cases a <;> rfl) q
end
section
variable {ρ : Env'} {P : Env' → Prop}
theorem t_tup {g : List PV → Env' → Option Env'} {xs : List PV} (q : Op (g xs ρ) P) : Op (tgT g (.tup xs) ρ) P := q
theorem t_cons {t : Tgt} {r : List PV → Env' → Option Env'} {x : PV} {xs : List PV} (q : Op (t x ρ) fun ρ1 => Op (r xs ρ1) P) : Op (tgCons t r (x :: xs) ρ) P := by
  unfold tgCons
  dsimp only
  cases h : t x ρ with
  | none => rw [h] at q; exact q.elim
  | some u => rw [h] at q; exact q
theorem t_nil (q : P ρ) : Op (tgNil [] ρ) P := q
end
theorem len_le {α : Type} {xs : List α} (h : Nat.ble xs.length 16777216 = true) : xs.length ≤ sizeLine := sizeLine_ge (Nat.le_of_ble_eq_true h)
/-- a statement whose ways meet again -/
theorem s_join {a b : TSt} {ρ : Env'} {S : Store} {Q : SR → Prop} (I : Env' → Store → Prop) (h1 : WS (a ρ S) fun r => match r with | .nx ρ' T => I ρ' T | _ => False) (h2 : ∀ ρ' T, I ρ' T → WS (b ρ' T) Q) : WS (a ρ S) fun r => WS (r.seq b) Q := by
  show WS ((a ρ S).seq b) Q
  have h1 : (match a ρ S with | .nx ρ' T => I ρ' T | _ => False) := h1
  generalize a ρ S = r at *
  cases r with
  | nx ρ' T => exact h2 ρ' T h1
  | _ => exact h1.elim
theorem setR0 {a0 : Option PV} {ρ : Env'} : SetR (a0 :: ρ) 0 fun x => some x :: ρ := .zero
theorem setR1 {a0 a1 : Option PV} {ρ : Env'} : SetR (a0 :: a1 :: ρ) 1 fun x => a0 :: some x :: ρ := .succ (.zero)
theorem setR2 {a0 a1 a2 : Option PV} {ρ : Env'} : SetR (a0 :: a1 :: a2 :: ρ) 2 fun x => a0 :: a1 :: some x :: ρ := .succ (.succ (.zero))
theorem setR3 {a0 a1 a2 a3 : Option PV} {ρ : Env'} : SetR (a0 :: a1 :: a2 :: a3 :: ρ) 3 fun x => a0 :: a1 :: a2 :: some x :: ρ := .succ (.succ (.succ (.zero)))
theorem setR4 {a0 a1 a2 a3 a4 : Option PV} {ρ : Env'} : SetR (a0 :: a1 :: a2 :: a3 :: a4 :: ρ) 4 fun x => a0 :: a1 :: a2 :: a3 :: some x :: ρ := .succ (.succ (.succ (.succ (.zero))))
theorem setR5 {a0 a1 a2 a3 a4 a5 : Option PV} {ρ : Env'} : SetR (a0 :: a1 :: a2 :: a3 :: a4 :: a5 :: ρ) 5 fun x => a0 :: a1 :: a2 :: a3 :: a4 :: some x :: ρ := .succ (.succ (.succ (.succ (.succ (.zero)))))
theorem setR6 {a0 a1 a2 a3 a4 a5 a6 : Option PV} {ρ : Env'} : SetR (a0 :: a1 :: a2 :: a3 :: a4 :: a5 :: a6 :: ρ) 6 fun x => a0 :: a1 :: a2 :: a3 :: a4 :: a5 :: some x :: ρ := .succ (.succ (.succ (.succ (.succ (.succ (.zero))))))
theorem setR7 {a0 a1 a2 a3 a4 a5 a6 a7 : Option PV} {ρ : Env'} : SetR (a0 :: a1 :: a2 :: a3 :: a4 :: a5 :: a6 :: a7 :: ρ) 7 fun x => a0 :: a1 :: a2 :: a3 :: a4 :: a5 :: a6 :: some x :: ρ := .succ (.succ (.succ (.succ (.succ (.succ (.succ (.zero)))))))
theorem setR8 {a0 a1 a2 a3 a4 a5 a6 a7 a8 : Option PV} {ρ : Env'} : SetR (a0 :: a1 :: a2 :: a3 :: a4 :: a5 :: a6 :: a7 :: a8 :: ρ) 8 fun x => a0 :: a1 :: a2 :: a3 :: a4 :: a5 :: a6 :: a7 :: some x :: ρ := .succ (.succ (.succ (.succ (.succ (.succ (.succ (.succ (.zero))))))))
theorem setR9 {a0 a1 a2 a3 a4 a5 a6 a7 a8 a9 : Option PV} {ρ : Env'} : SetR (a0 :: a1 :: a2 :: a3 :: a4 :: a5 :: a6 :: a7 :: a8 :: a9 :: ρ) 9 fun x => a0 :: a1 :: a2 :: a3 :: a4 :: a5 :: a6 :: a7 :: a8 :: some x :: ρ := .succ (.succ (.succ (.succ (.succ (.succ (.succ (.succ (.succ (.zero)))))))))
theorem setR10 {a0 a1 a2 a3 a4 a5 a6 a7 a8 a9 a10 : Option PV} {ρ : Env'} : SetR (a0 :: a1 :: a2 :: a3 :: a4 :: a5 :: a6 :: a7 :: a8 :: a9 :: a10 :: ρ) 10 fun x => a0 :: a1 :: a2 :: a3 :: a4 :: a5 :: a6 :: a7 :: a8 :: a9 :: some x :: ρ := .succ (.succ (.succ (.succ (.succ (.succ (.succ (.succ (.succ (.succ (.zero))))))))))
theorem setR11 {a0 a1 a2 a3 a4 a5 a6 a7 a8 a9 a10 a11 : Option PV} {ρ : Env'} : SetR (a0 :: a1 :: a2 :: a3 :: a4 :: a5 :: a6 :: a7 :: a8 :: a9 :: a10 :: a11 :: ρ) 11 fun x => a0 :: a1 :: a2 :: a3 :: a4 :: a5 :: a6 :: a7 :: a8 :: a9 :: a10 :: some x :: ρ := .succ (.succ (.succ (.succ (.succ (.succ (.succ (.succ (.succ (.succ (.succ (.zero)))))))))))
theorem setR12 {a0 a1 a2 a3 a4 a5 a6 a7 a8 a9 a10 a11 a12 : Option PV} {ρ : Env'} : SetR (a0 :: a1 :: a2 :: a3 :: a4 :: a5 :: a6 :: a7 :: a8 :: a9 :: a10 :: a11 :: a12 :: ρ) 12 fun x => a0 :: a1 :: a2 :: a3 :: a4 :: a5 :: a6 :: a7 :: a8 :: a9 :: a10 :: a11 :: some x :: ρ := .succ (.succ (.succ (.succ (.succ (.succ (.succ (.succ (.succ (.succ (.succ (.succ (.zero))))))))))))
/-! ### loops that look for something -/
section
variable {tg : Tgt} {b : TSt} {l : LI} {ρ : Env'} {S : Store} {Q : SR → Prop}
/-- what one turn of a loop that looks for something may end in -/
def Seek (m : List Nat) (ρ : Env') (S : Store) (o : Option PV) : SR → Prop
  | .nx ρ' T => T = S ∧ o = none ∧ Off m ρ ρ'
  | .cnt ρ' T => T = S ∧ o = none ∧ Off m ρ ρ'
  | .ret v T => T = S ∧ o = some v
  | _ => False
theorem seek_nx {m : List Nat} {ρ' : Env'} {o : Option PV} (h0 : o = none) (h : Off m ρ ρ') : Seek m ρ S o (.nx ρ' S) := ⟨rfl, h0, h⟩
theorem seek_cnt {m : List Nat} {ρ' : Env'} {o : Option PV} (h0 : o = none) (h : Off m ρ ρ') : Seek m ρ S o (.cnt ρ' S) := ⟨rfl, h0, h⟩
theorem seek_ret {m : List Nat} {v : PV} {o : Option PV} (h : o = some v) : Seek m ρ S o (.ret v S) := ⟨rfl, h⟩
end
local macro_rules | `(tactic| walk_at "w") => `(tactic| first
  | (with_reducible apply s_set; focus (repeat first | exact SetR.zero | apply SetR.succ))
  | (with_reducible apply w_get; focus (repeat first | exact GetR.zero | apply GetR.succ))
  | with_reducible first
  | refine s_seqN ?_ | refine s_seq ?_ | refine q_nx ?_ | refine q_ret ?_ | refine q_brk ?_ | refine q_cnt ?_ | refine q_exc ?_
  | refine s_nil ?_ | refine s_pass ?_ | refine s_brk ?_ | refine s_cnt ?_ | refine s_expr ?_ | refine s_ret ?_ | refine s_retN ?_ | refine s_if ?_ | refine s_unp ?_ | refine s_sub ?_ | refine s_for ?_
  | refine w_c ?_ | (refine w_str ?_ ?_; decide +kernel) | refine w_bin ?_ | refine w_un ?_ | refine w_chn ?_ | refine w_bV ?_ | refine w_bBl ?_ | refine w_bAnd ?_ | refine w_bOr ?_ | refine w_bNot ?_ | refine w_bYes ?_
  | refine w_vAnd ?_ | refine w_vOr ?_ | refine w_vNot ?_ | refine w_vIf ?_ | refine w_nil ?_ | refine w_cons ?_ | refine w_tup ?_ | refine w_disp ?_ | refine w_new ?_ | refine lnew ?_ | refine w_oNone ?_ | refine w_oSome ?_ | refine w_slc ?_ | refine w_lslc ?_ | refine slcT ?_ | refine slcS ?_
  | refine w_call ?_ | refine w_callL ?_ | refine w_lcallL ?_ | refine w_lcallN ?_ | refine w_isi ?_ | refine w_app ?_ | refine w_app0 ?_ | refine w_lval ?_ | refine w_cat ?_ | refine w_eqL ?_ | refine w_lm ?_ | refine w_ext ?_ | refine w_sm ?_ | refine w_sm0 ?_ | refine w_lsm ?_ | refine w_smL ?_ | refine w_dic0 ?_ | refine w_dic1 ?_ | refine w_iV ?_ | refine w_iL ?_ | refine il_none ?_ | refine il_some ?_ | refine w_rng ?_ | refine w_comp ?_ | refine w_rev ?_ | refine w_lenSet ?_ | refine w_extV ?_
  | refine o_addI ?_ | refine o_iadd ?_ | refine o_sub ?_ | refine o_neg ?_ | refine o_ltI ?_ | refine o_le ?_ | refine o_gt ?_ | refine o_ge ?_ | refine o_is ?_ | refine o_isNot ?_ | refine o_lenT ?_ | refine o_lenF ?_ | refine o_lenS ?_ | refine o_intB ?_ | refine o_intI ?_ | refine o_max ?_ | refine o_min ?_ | refine o_tupT ?_ | refine o_eqI ?_ | refine o_eqS ?_ | refine o_eqB ?_
  | refine b_is ?_ | refine i_is ?_ | refine s_is ?_ | refine i_tup ?_ | refine i_str ?_ | refine tr_bl ?_ | refine ty_bl ?_ | refine ty_str ?_ | refine ty_tup ?_ | refine ty_int ?_ | refine k_s ?_ | refine k_i ?_
  | refine Br.tt ?_ | refine Br.ff ?_ | refine Br.nf ?_ | refine Br.nt ?_ | refine f_ret ?_ | refine f_nx ?_ | refine f_body ?_)
/-! ### tests of the wider walk -/
local macro_rules | `(tactic| walk_at "sget") => `(tactic| first
  | assumption | exact get_app _ _ _ | exact trivial
  | (refine get_set ?_; walk_at "sget") | (refine get_app_lt ?_; walk_at "sget"))
local macro_rules | `(tactic| walk_at "len") => `(tactic| first
  | exact Nat.zero_le _ | exact len_le rfl
  | (have hbig := sizeLine_eq; simp only [List.length_map, List.length_cons, List.length_nil, List.length_append, List.length_take, List.length_drop, List.length_reverse, List.length_set, List.length_range]; omega))
local macro_rules | `(tactic| walk_at "off") => `(tactic| focus rfl)
local macro_rules | `(tactic| walk_at "e") => `(tactic| simp only [wipeE, reset, List.foldl_cons, List.foldl_nil, List.set_cons_succ, List.set_cons_zero])
local macro_rules | `(tactic| walk_at "kp") => `(tactic| first | assumption | exact Kp.refl _ | exact Kp.app _ _ | (refine Kp.trans ?_ (Kp.app _ _); walk_at "kp"))
local macro_rules | `(tactic| walk_at "set") => `(tactic| first | exact setR0 | exact setR1 | exact setR2 | exact setR3 | exact setR4 | exact setR5 | exact setR6 | exact setR7 | exact setR8 | exact setR9 | exact setR10 | exact setR11 | exact setR12 | (repeat first | exact SetR.zero | apply SetR.succ))
local macro_rules | `(tactic| walk_at "f") => `(tactic| fail)
local macro_rules | `(tactic| walk_at "x") => `(tactic| first
  | ((with_reducible show W _ _ _); first
    | ((with_reducible apply w_var); (focus exact rfl))
    | with_reducible first | refine w_c ?_ | refine w_cons ?_ | refine w_nil ?_ | refine w_bin ?_ | refine w_app ?_ | refine w_call ?_ | refine w_tup ?_ | refine w_bBl ?_ | refine w_new ?_ | refine w_iV ?_ | refine w_comp ?_ | refine w_iL ?_ | refine w_bV ?_ | refine w_disp ?_ | refine w_vAnd ?_ | refine w_vOr ?_ | refine w_bAnd ?_ | refine w_bOr ?_ | refine w_bNot ?_ | refine w_bYes ?_ | refine w_isi ?_ | refine w_callL ?_ | refine w_lval ?_ | refine w_lm ?_ | refine w_chn ?_ | refine w_un ?_ | refine w_oNone ?_ | refine w_oSome ?_ | refine w_slc ?_ | refine w_lslc ?_ | refine w_rng ?_ | refine w_vNot ?_ | refine w_vIf ?_ | refine w_cat ?_ | refine w_eqL ?_ | refine w_lenSet ?_ | refine w_app0 ?_ | refine w_extV ?_ | refine w_ext ?_ | refine w_lcallL ?_ | refine w_lcallN ?_ | refine w_sm ?_ | refine w_sm0 ?_ | refine w_lsm ?_ | refine w_smL ?_ | refine w_dic0 ?_ | refine w_dic1 ?_ | refine w_rev ?_ | refine f_ret ?_ | refine f_nx ?_
    | ((with_reducible refine g_keep ?_ ?_ ?_); (focus walk_at "kp"); (focus rfl))
    | (with_reducible refine w_str ?_ ?_; decide +kernel)
    | walk_at "f"
    | with_reducible refine f_body ?_)
  | ((with_reducible show WS _ _); first
    | with_reducible first | refine s_seqN ?_ | refine s_seq ?_ | refine q_nx ?_
    | ((with_reducible apply s_set); (focus walk_at "set"))
    | with_reducible first | refine s_expr ?_ | refine s_ret ?_ | refine s_if ?_ | refine s_nil ?_ | refine q_ret ?_ | refine s_unp ?_ | refine s_sub ?_ | refine s_for ?_ | refine q_cnt ?_ | refine q_brk ?_ | refine q_exc ?_ | refine s_retN ?_ | refine s_cnt ?_ | refine s_brk ?_ | refine s_pass ?_)
  | ((with_reducible show Op _ _); first
    | ((with_reducible apply t_n); (focus walk_at "set"))
    | with_reducible first
      | refine t_cons ?_ | refine t_nil ?_ | refine t_tup ?_ | refine i_tup ?_
      | refine o_lenT ?_
      | refine o_eqS ?_ | refine o_eqI ?_ | refine o_eqB ?_ | refine o_neI ?_ | refine o_neS ?_ | refine o_neB ?_ | refine o_is ?_ | refine o_isNot ?_ | refine o_isT ?_ | refine o_isNT ?_ | refine o_isF ?_ | refine o_isNF ?_
      | refine o_addI ?_ | refine o_sub ?_ | refine o_neg ?_ | refine o_ltI ?_ | refine o_le ?_ | refine o_gt ?_ | refine o_ge ?_ | refine o_iadd ?_
      | refine tr_bl ?_ | refine ty_bl ?_ | refine ty_str ?_ | refine ty_tup ?_ | refine ty_int ?_ | refine o_tupT ?_
      | refine o_lenF ?_ | refine o_lenS ?_ | refine o_intB ?_ | refine o_intI ?_ | refine o_max ?_ | refine o_min ?_ | refine i_str ?_ | refine k_s ?_ | refine k_i ?_
    | ((with_reducible apply o_idxT); (focus first | exact at0 _ _ | exact at1 _ _ _ | exact at2 _ _ _ _ | exact at3 _ _ _ _ _))
    | ((with_reducible apply i_ref); (focus walk_at "sget"))
    | ((with_reducible apply o_getL); (focus walk_at "sget"))
    | ((with_reducible apply o_lenR); (focus walk_at "sget"))
    | ((with_reducible apply o_idxR); (focus walk_at "sget"); (focus first | exact at0 _ _ | exact at1 _ _ _ | exact at2 _ _ _ _))
    | ((with_reducible apply o_tupR); (focus walk_at "sget"))
    | ((with_reducible apply o_listR); (focus walk_at "sget"))
    | ((with_reducible refine o_mod ?_ ?_); (focus omega))
    | ((with_reducible refine o_div ?_ ?_); (focus omega))
    | ((with_reducible refine o_pow ?_ ?_); (focus decide))
    | ((with_reducible refine o_app ?_ ?_); (focus walk_at "len"))
    | walk_at "f")
  | with_reducible first | refine b_is ?_ | refine i_is ?_ | refine s_is ?_ | refine Br.tt ?_ | refine Br.ff ?_ | refine Br.nf ?_ | refine Br.nt ?_ | refine lnew ?_ | refine il_none ?_ | refine il_some ?_ | refine revT ?_ | refine slcT ?_ | refine slcS ?_
  | ((with_reducible refine Br.of_tt ?_ ?_); focus (first | assumption | rfl | exact beq_self_eq_true _ | (simp only [decide_eq_true_eq]; omega)))
  | ((with_reducible refine Br.of_ff ?_ ?_); focus (first | assumption | rfl | (rw [beq_self_eq_true]; rfl) | (simp only [decide_eq_false_iff_not]; omega)))
  | ((with_reducible refine And.intro ?_ ?_); (focus first | ((with_reducible show _ ≤ sizeLine); walk_at "len") | ((with_reducible show lkOk _ _); walk_at "sget")))
  | ((with_reducible refine seek_nx ?_ ?_); (focus rfl); walk_at "off") | ((with_reducible refine seek_cnt ?_ ?_); (focus rfl); walk_at "off") | ((with_reducible refine seek_ret ?_); focus rfl))
local macro_rules | `(tactic| walk_at "b") => `(tactic| with_reducible first | refine b_is ?_ | refine Br.tt ?_ | refine Br.ff ?_ | refine Br.nf ?_ | refine Br.nt ?_ | refine tr_bl ?_)
local macro_rules | `(tactic| walk_at "y") => `(tactic| (fail_if_success (with_reducible refine s_if ?_)); walk_at "x")
end Ev

namespace Ev
open PySem PySem.Spec PyProof.Rows L2 SX
/-! Fw36: kinds that are drawn are kinds, books of them are books. -/
section
def eKd (k : Kind) : PV := eK k.1 k.2
end
local macro_rules | `(tactic| walk_at "w") => `(tactic| first
  | (with_reducible apply s_set; focus (repeat first | exact SetR.zero | apply SetR.succ))
  | (with_reducible apply w_get; focus (repeat first | exact GetR.zero | apply GetR.succ))
  | with_reducible first
  | refine s_seqN ?_ | refine s_seq ?_ | refine q_nx ?_ | refine q_ret ?_ | refine q_brk ?_ | refine q_cnt ?_ | refine q_exc ?_
  | refine s_nil ?_ | refine s_pass ?_ | refine s_brk ?_ | refine s_cnt ?_ | refine s_expr ?_ | refine s_ret ?_ | refine s_retN ?_ | refine s_if ?_ | refine s_unp ?_ | refine s_sub ?_ | refine s_for ?_
  | refine w_c ?_ | (refine w_str ?_ ?_; decide +kernel) | refine w_bin ?_ | refine w_un ?_ | refine w_chn ?_ | refine w_bV ?_ | refine w_bBl ?_ | refine w_bAnd ?_ | refine w_bOr ?_ | refine w_bNot ?_ | refine w_bYes ?_
  | refine w_vAnd ?_ | refine w_vOr ?_ | refine w_vNot ?_ | refine w_vIf ?_ | refine w_nil ?_ | refine w_cons ?_ | refine w_tup ?_ | refine w_disp ?_ | refine w_new ?_ | refine lnew ?_ | refine w_oNone ?_ | refine w_oSome ?_ | refine w_slc ?_ | refine w_lslc ?_ | refine slcT ?_ | refine slcS ?_
  | refine w_call ?_ | refine w_callL ?_ | refine w_lcallL ?_ | refine w_lcallN ?_ | refine w_isi ?_ | refine w_app ?_ | refine w_app0 ?_ | refine w_lval ?_ | refine w_cat ?_ | refine w_eqL ?_ | refine w_lm ?_ | refine w_ext ?_ | refine w_sm ?_ | refine w_sm0 ?_ | refine w_lsm ?_ | refine w_smL ?_ | refine w_dic0 ?_ | refine w_dic1 ?_ | refine w_iV ?_ | refine w_iL ?_ | refine il_none ?_ | refine il_some ?_ | refine w_rng ?_ | refine w_comp ?_ | refine w_rev ?_ | refine w_lenSet ?_ | refine w_extV ?_
  | refine o_addI ?_ | refine o_iadd ?_ | refine o_sub ?_ | refine o_neg ?_ | refine o_ltI ?_ | refine o_le ?_ | refine o_gt ?_ | refine o_ge ?_ | refine o_is ?_ | refine o_isNot ?_ | refine o_lenT ?_ | refine o_lenF ?_ | refine o_lenS ?_ | refine o_intB ?_ | refine o_intI ?_ | refine o_max ?_ | refine o_min ?_ | refine o_tupT ?_ | refine o_eqI ?_ | refine o_eqS ?_ | refine o_eqB ?_
  | refine b_is ?_ | refine i_is ?_ | refine s_is ?_ | refine i_tup ?_ | refine i_str ?_ | refine tr_bl ?_ | refine ty_bl ?_ | refine ty_str ?_ | refine ty_tup ?_ | refine ty_int ?_ | refine k_s ?_ | refine k_i ?_
  | refine Br.tt ?_ | refine Br.ff ?_ | refine Br.nf ?_ | refine Br.nt ?_ | refine f_ret ?_ | refine f_nx ?_ | refine f_body ?_)
local macro_rules | `(tactic| walk_at "sget") => `(tactic| first
  | assumption | exact get_app _ _ _ | exact trivial
  | (refine get_set ?_; walk_at "sget") | (refine get_app_lt ?_; walk_at "sget"))
local macro_rules | `(tactic| walk_at "len") => `(tactic| first
  | exact Nat.zero_le _ | exact len_le rfl
  | (have hbig := sizeLine_eq; simp only [List.length_map, List.length_cons, List.length_nil, List.length_append, List.length_take, List.length_drop, List.length_reverse, List.length_set, List.length_range]; omega))
local macro_rules | `(tactic| walk_at "off") => `(tactic| focus rfl)
local macro_rules | `(tactic| walk_at "e") => `(tactic| simp only [wipeE, reset, List.foldl_cons, List.foldl_nil, List.set_cons_succ, List.set_cons_zero])
local macro_rules | `(tactic| walk_at "kp") => `(tactic| first | assumption | exact Kp.refl _ | exact Kp.app _ _ | (refine Kp.trans ?_ (Kp.app _ _); walk_at "kp"))
local macro_rules | `(tactic| walk_at "set") => `(tactic| first | exact setR0 | exact setR1 | exact setR2 | exact setR3 | exact setR4 | exact setR5 | exact setR6 | exact setR7 | exact setR8 | exact setR9 | exact setR10 | exact setR11 | exact setR12 | (repeat first | exact SetR.zero | apply SetR.succ))
local macro_rules | `(tactic| walk_at "f") => `(tactic| fail)
local macro_rules | `(tactic| walk_at "x") => `(tactic| first
  | ((with_reducible show W _ _ _); first
    | ((with_reducible apply w_var); (focus exact rfl))
    | with_reducible first | refine w_c ?_ | refine w_cons ?_ | refine w_nil ?_ | refine w_bin ?_ | refine w_app ?_ | refine w_call ?_ | refine w_tup ?_ | refine w_bBl ?_ | refine w_new ?_ | refine w_iV ?_ | refine w_comp ?_ | refine w_iL ?_ | refine w_bV ?_ | refine w_disp ?_ | refine w_vAnd ?_ | refine w_vOr ?_ | refine w_bAnd ?_ | refine w_bOr ?_ | refine w_bNot ?_ | refine w_bYes ?_ | refine w_isi ?_ | refine w_callL ?_ | refine w_lval ?_ | refine w_lm ?_ | refine w_chn ?_ | refine w_un ?_ | refine w_oNone ?_ | refine w_oSome ?_ | refine w_slc ?_ | refine w_lslc ?_ | refine w_rng ?_ | refine w_vNot ?_ | refine w_vIf ?_ | refine w_cat ?_ | refine w_eqL ?_ | refine w_lenSet ?_ | refine w_app0 ?_ | refine w_extV ?_ | refine w_ext ?_ | refine w_lcallL ?_ | refine w_lcallN ?_ | refine w_sm ?_ | refine w_sm0 ?_ | refine w_lsm ?_ | refine w_smL ?_ | refine w_dic0 ?_ | refine w_dic1 ?_ | refine w_rev ?_ | refine f_ret ?_ | refine f_nx ?_
    | ((with_reducible refine g_keep ?_ ?_ ?_); (focus walk_at "kp"); (focus rfl))
    | (with_reducible refine w_str ?_ ?_; decide +kernel)
    | walk_at "f"
    | with_reducible refine f_body ?_)
  | ((with_reducible show WS _ _); first
    | with_reducible first | refine s_seqN ?_ | refine s_seq ?_ | refine q_nx ?_
    | ((with_reducible apply s_set); (focus walk_at "set"))
    | with_reducible first | refine s_expr ?_ | refine s_ret ?_ | refine s_if ?_ | refine s_nil ?_ | refine q_ret ?_ | refine s_unp ?_ | refine s_sub ?_ | refine s_for ?_ | refine q_cnt ?_ | refine q_brk ?_ | refine q_exc ?_ | refine s_retN ?_ | refine s_cnt ?_ | refine s_brk ?_ | refine s_pass ?_)
  | ((with_reducible show Op _ _); first
    | ((with_reducible apply t_n); (focus walk_at "set"))
    | with_reducible first
      | refine t_cons ?_ | refine t_nil ?_ | refine t_tup ?_ | refine i_tup ?_
      | refine o_lenT ?_
      | refine o_eqS ?_ | refine o_eqI ?_ | refine o_eqB ?_ | refine o_neI ?_ | refine o_neS ?_ | refine o_neB ?_ | refine o_is ?_ | refine o_isNot ?_ | refine o_isT ?_ | refine o_isNT ?_ | refine o_isF ?_ | refine o_isNF ?_
      | refine o_addI ?_ | refine o_sub ?_ | refine o_neg ?_ | refine o_ltI ?_ | refine o_le ?_ | refine o_gt ?_ | refine o_ge ?_ | refine o_iadd ?_
      | refine tr_bl ?_ | refine ty_bl ?_ | refine ty_str ?_ | refine ty_tup ?_ | refine ty_int ?_ | refine o_tupT ?_
      | refine o_lenF ?_ | refine o_lenS ?_ | refine o_intB ?_ | refine o_intI ?_ | refine o_max ?_ | refine o_min ?_ | refine i_str ?_ | refine k_s ?_ | refine k_i ?_
    | ((with_reducible apply o_idxT); (focus first | exact at0 _ _ | exact at1 _ _ _ | exact at2 _ _ _ _ | exact at3 _ _ _ _ _))
    | ((with_reducible apply i_ref); (focus walk_at "sget"))
    | ((with_reducible apply o_getL); (focus walk_at "sget"))
    | ((with_reducible apply o_lenR); (focus walk_at "sget"))
    | ((with_reducible apply o_idxR); (focus walk_at "sget"); (focus first | exact at0 _ _ | exact at1 _ _ _ | exact at2 _ _ _ _))
    | ((with_reducible apply o_tupR); (focus walk_at "sget"))
    | ((with_reducible apply o_listR); (focus walk_at "sget"))
    | ((with_reducible refine o_mod ?_ ?_); (focus omega))
    | ((with_reducible refine o_div ?_ ?_); (focus omega))
    | ((with_reducible refine o_pow ?_ ?_); (focus decide))
    | ((with_reducible refine o_app ?_ ?_); (focus walk_at "len"))
    | walk_at "f")
  | with_reducible first | refine b_is ?_ | refine i_is ?_ | refine s_is ?_ | refine Br.tt ?_ | refine Br.ff ?_ | refine Br.nf ?_ | refine Br.nt ?_ | refine lnew ?_ | refine il_none ?_ | refine il_some ?_ | refine revT ?_ | refine slcT ?_ | refine slcS ?_
  | ((with_reducible refine Br.of_tt ?_ ?_); focus (first | assumption | rfl | exact beq_self_eq_true _ | (simp only [decide_eq_true_eq]; omega)))
  | ((with_reducible refine Br.of_ff ?_ ?_); focus (first | assumption | rfl | (rw [beq_self_eq_true]; rfl) | (simp only [decide_eq_false_iff_not]; omega)))
  | ((with_reducible refine And.intro ?_ ?_); (focus first | ((with_reducible show _ ≤ sizeLine); walk_at "len") | ((with_reducible show lkOk _ _); walk_at "sget")))
  | ((with_reducible refine seek_nx ?_ ?_); (focus rfl); walk_at "off") | ((with_reducible refine seek_cnt ?_ ?_); (focus rfl); walk_at "off") | ((with_reducible refine seek_ret ?_); focus rfl))
local macro_rules | `(tactic| walk_at "b") => `(tactic| with_reducible first | refine b_is ?_ | refine Br.tt ?_ | refine Br.ff ?_ | refine Br.nf ?_ | refine Br.nt ?_ | refine tr_bl ?_)
local macro_rules | `(tactic| walk_at "y") => `(tactic| (fail_if_success (with_reducible refine s_if ?_)); walk_at "x")
/-! Fw37 -/
section
theorem w_fn {np nl : Nat} {b : TSt} {args : List PV} {S : Store} {Q : PV → Store → Prop} {E : PX → Store → Prop} (h : args.length = np) (q : WS (b (args.map some ++ List.replicate (nl - np) none) S) fun r => W (fin S r) Q E) : W (fnV np nl b args S) Q E := by
  rw [fnV_eq np nl b args S h]; exact q
end
/-! Fw38 -/
/-! Fw39 -/
section
theorem cutL_map {α β : Type} (f : α → β) (xs : List α) (l h : Option Int) : cutL (xs.map f) l h = (cutL xs l h).map f := by
  unfold cutL
  rw [List.length_map, List.map_take, List.map_drop]
theorem cutL_len {α : Type} (xs : List α) (l h : Option Int) : (cutL xs l h).length ≤ xs.length := by
  unfold cutL
  simp only [List.length_take, List.length_drop]; omega
/-- the first state -/
def fstS (k : Kind) : Str := match k.2 with
  | s :: _ => s.1
  | [] => default
section
variable {Q : PV → Store → Prop} {E : PX → Store → Prop} {S0 : Store}
theorem first_w {k : Kind} (ne : k.2 ≠ []) (q : Q (.str (fstS k)) S0) : W (fnV 1 1 bFirst [eKd k] S0) Q E := by
  obtain ⟨n, sts⟩ := k
  cases sts with
  | nil => exact absurd rfl ne
  | cons s ss => exact first_state_w q
theorem fst_in {k : Kind} (ne : k.2 ≠ []) : fstS k ∈ k.2.map (·.1) := by
  obtain ⟨n, sts⟩ := k
  cases sts with
  | nil => exact absurd rfl ne
  | cons s ss => simp [fstS]
end
end
end Ev
namespace Ev
open PySem PySem.Spec PyProof.Rows L2 SX
open Sem (wp)
/-! Fw40: enumerate of lists and tuples, zip of lists and tuples. -/
section
/-! ### enumerate of a tuple, at the library's level -/
/-! ### lists enumerated, lists and tuples zipped: the pairs known -/
/-! ### as what is walked -/
def enumF : Nat → List PV → List PV
  | _, [] => []
  | n, x :: r => .tup [.int (n : Nat), x] :: enumF (n + 1) r
def enumL (xs : List PV) : List PV := enumF 0 xs
def zipL : List PV → List PV → List PV
  | x :: xs, y :: ys => .tup [x, y] :: zipL xs ys
  | _, _ => []
/-- what enumerate tells -/
def itemsE (x : PV) (S : Store) : Option LI := match x with
  | .tup xs => some (enumL xs, none)
  | .frl xs => some (enumL xs, none)
  | .ref i => match S[i]? with
    | some (.lst xs) => some (enumL xs, some (.one i xs))
    | _ => none
  | _ => none
def iEn (e : TV) : TIt := fun ρ S => (e ρ S).bind fun x S => match itemsE x S with
  | some l => .ok l S
  | none => .bad
/-- what zip tells -/
def itemsZ (x y : PV) (S : Store) : Option LI := match x, y with
  | .tup xs, .tup ys => some (zipL xs ys, none)
  | .frl xs, .frl ys => some (zipL xs ys, none)
  | .ref i, .ref j => match S[i]?, S[j]? with
    | some (.lst xs), some (.lst ys) => some (zipL xs ys, some (.two i xs j ys))
    | _, _ => none
  | .frl xs, .ref j => match S[j]? with
    | some (.lst ys) => some (zipL xs ys, some (.one j ys))
    | _ => none
  | .ref i, .frl ys => match S[i]? with
    | some (.lst xs) => some (zipL xs ys, some (.one i xs))
    | _ => none
  | _, _ => none
def iZp (es : TVs) : TIt := fun ρ S => (es ρ S).bind fun xs S => match xs with
  | [x, y] => match itemsZ x y S with
    | some l => .ok l S
    | none => .bad
  | _ => .bad
/-! ### rules -/
section
variable {QI : LI → Store → Prop} {E : PX → Store → Prop} {ρ : Env'} {S : Store} {e : TV} {es : TVs}
theorem w_iEn (h : W (e ρ S) (fun x S => Op (itemsE x S) fun l => QI l S) E) : W (iEn e ρ S) QI E := by
  refine W_bind (W_mono h (fun x S h => ?_) fun _ _ h => h)
  cases hf : itemsE x S with
  | none => rw [hf] at h; exact h.elim
  | some u => rw [hf] at h; exact h
def itemsZs (xs : List PV) (S : Store) : Option LI := match xs with
  | [x, y] => itemsZ x y S
  | _ => none
theorem w_iZp (h : W (es ρ S) (fun xs S => Op (itemsZs xs S) fun l => QI l S) E) : W (iZp es ρ S) QI E := by
  refine W_bind (W_mono h (fun xs S h => ?_) fun _ _ h => h)
  unfold itemsZs at h
  split at h
  · rename_i x y
    cases hf : itemsZ x y S with
    | none => rw [hf] at h; exact h.elim
    | some u => rw [hf] at h; exact h
  · exact h.elim
theorem zs_two {x y : PV} {Q : LI → Prop} (q : Op (itemsZ x y S) Q) : Op (itemsZs [x, y] S) Q := q
variable {P : LI → Prop}
theorem en_tup {xs : List PV} (q : P (enumL xs, none)) : Op (itemsE (.tup xs) S) P := q
theorem en_frl {xs : List PV} (q : P (enumL xs, none)) : Op (itemsE (.frl xs) S) P := q
theorem z_tup {xs ys : List PV} (q : P (zipL xs ys, none)) : Op (itemsZ (.tup xs) (.tup ys) S) P := q
theorem i_frl {xs : List PV} (q : P (xs, none)) : Op (itemsOf (.frl xs) S) P := q
end
local macro_rules | `(tactic| walk_at "f") => `(tactic| with_reducible first | refine w_iEn ?_ | refine w_iZp ?_ | refine zs_two ?_ | refine en_tup ?_ | refine en_frl ?_ | refine z_tup ?_ | refine i_frl ?_ | refine w_revT ?_)
end
end Ev
namespace Ev
open PySem PySem.Spec PyProof.Rows L2 SX
local macro_rules | `(tactic| walk_at "w") => `(tactic| first
  | (with_reducible apply s_set; focus (repeat first | exact SetR.zero | apply SetR.succ))
  | (with_reducible apply w_get; focus (repeat first | exact GetR.zero | apply GetR.succ))
  | with_reducible first
  | refine s_seqN ?_ | refine s_seq ?_ | refine q_nx ?_ | refine q_ret ?_ | refine q_brk ?_ | refine q_cnt ?_ | refine q_exc ?_
  | refine s_nil ?_ | refine s_pass ?_ | refine s_brk ?_ | refine s_cnt ?_ | refine s_expr ?_ | refine s_ret ?_ | refine s_retN ?_ | refine s_if ?_ | refine s_unp ?_ | refine s_sub ?_ | refine s_for ?_
  | refine w_c ?_ | (refine w_str ?_ ?_; decide +kernel) | refine w_bin ?_ | refine w_un ?_ | refine w_chn ?_ | refine w_bV ?_ | refine w_bBl ?_ | refine w_bAnd ?_ | refine w_bOr ?_ | refine w_bNot ?_ | refine w_bYes ?_
  | refine w_vAnd ?_ | refine w_vOr ?_ | refine w_vNot ?_ | refine w_vIf ?_ | refine w_nil ?_ | refine w_cons ?_ | refine w_tup ?_ | refine w_disp ?_ | refine w_new ?_ | refine lnew ?_ | refine w_oNone ?_ | refine w_oSome ?_ | refine w_slc ?_ | refine w_lslc ?_ | refine slcT ?_ | refine slcS ?_
  | refine w_call ?_ | refine w_callL ?_ | refine w_lcallL ?_ | refine w_lcallN ?_ | refine w_isi ?_ | refine w_app ?_ | refine w_app0 ?_ | refine w_lval ?_ | refine w_cat ?_ | refine w_eqL ?_ | refine w_lm ?_ | refine w_ext ?_ | refine w_sm ?_ | refine w_sm0 ?_ | refine w_lsm ?_ | refine w_smL ?_ | refine w_dic0 ?_ | refine w_dic1 ?_ | refine w_iV ?_ | refine w_iL ?_ | refine il_none ?_ | refine il_some ?_ | refine w_rng ?_ | refine w_comp ?_ | refine w_rev ?_ | refine w_lenSet ?_ | refine w_extV ?_
  | refine o_addI ?_ | refine o_iadd ?_ | refine o_sub ?_ | refine o_neg ?_ | refine o_ltI ?_ | refine o_le ?_ | refine o_gt ?_ | refine o_ge ?_ | refine o_is ?_ | refine o_isNot ?_ | refine o_lenT ?_ | refine o_lenF ?_ | refine o_lenS ?_ | refine o_intB ?_ | refine o_intI ?_ | refine o_max ?_ | refine o_min ?_ | refine o_tupT ?_ | refine o_eqI ?_ | refine o_eqS ?_ | refine o_eqB ?_
  | refine b_is ?_ | refine i_is ?_ | refine s_is ?_ | refine i_tup ?_ | refine i_str ?_ | refine tr_bl ?_ | refine ty_bl ?_ | refine ty_str ?_ | refine ty_tup ?_ | refine ty_int ?_ | refine k_s ?_ | refine k_i ?_
  | refine Br.tt ?_ | refine Br.ff ?_ | refine Br.nf ?_ | refine Br.nt ?_ | refine f_ret ?_ | refine f_nx ?_ | refine f_body ?_)
local macro_rules | `(tactic| walk_at "sget") => `(tactic| first
  | assumption | exact get_app _ _ _ | exact trivial
  | (refine get_set ?_; walk_at "sget") | (refine get_app_lt ?_; walk_at "sget"))
local macro_rules | `(tactic| walk_at "len") => `(tactic| first
  | exact Nat.zero_le _ | exact len_le rfl
  | (have hbig := sizeLine_eq; simp only [List.length_map, List.length_cons, List.length_nil, List.length_append, List.length_take, List.length_drop, List.length_reverse, List.length_set, List.length_range]; omega))
local macro_rules | `(tactic| walk_at "off") => `(tactic| focus rfl)
local macro_rules | `(tactic| walk_at "e") => `(tactic| simp only [wipeE, reset, List.foldl_cons, List.foldl_nil, List.set_cons_succ, List.set_cons_zero])
local macro_rules | `(tactic| walk_at "kp") => `(tactic| first | assumption | exact Kp.refl _ | exact Kp.app _ _ | (refine Kp.trans ?_ (Kp.app _ _); walk_at "kp"))
local macro_rules | `(tactic| walk_at "set") => `(tactic| first | exact setR0 | exact setR1 | exact setR2 | exact setR3 | exact setR4 | exact setR5 | exact setR6 | exact setR7 | exact setR8 | exact setR9 | exact setR10 | exact setR11 | exact setR12 | (repeat first | exact SetR.zero | apply SetR.succ))
local macro_rules | `(tactic| walk_at "f") => `(tactic| fail)
local macro_rules | `(tactic| walk_at "x") => `(tactic| first
  | ((with_reducible show W _ _ _); first
    | ((with_reducible apply w_var); (focus exact rfl))
    | with_reducible first | refine w_c ?_ | refine w_cons ?_ | refine w_nil ?_ | refine w_bin ?_ | refine w_app ?_ | refine w_call ?_ | refine w_tup ?_ | refine w_bBl ?_ | refine w_new ?_ | refine w_iV ?_ | refine w_comp ?_ | refine w_iL ?_ | refine w_bV ?_ | refine w_disp ?_ | refine w_vAnd ?_ | refine w_vOr ?_ | refine w_bAnd ?_ | refine w_bOr ?_ | refine w_bNot ?_ | refine w_bYes ?_ | refine w_isi ?_ | refine w_callL ?_ | refine w_lval ?_ | refine w_lm ?_ | refine w_chn ?_ | refine w_un ?_ | refine w_oNone ?_ | refine w_oSome ?_ | refine w_slc ?_ | refine w_lslc ?_ | refine w_rng ?_ | refine w_vNot ?_ | refine w_vIf ?_ | refine w_cat ?_ | refine w_eqL ?_ | refine w_lenSet ?_ | refine w_app0 ?_ | refine w_extV ?_ | refine w_ext ?_ | refine w_lcallL ?_ | refine w_lcallN ?_ | refine w_sm ?_ | refine w_sm0 ?_ | refine w_lsm ?_ | refine w_smL ?_ | refine w_dic0 ?_ | refine w_dic1 ?_ | refine w_rev ?_ | refine f_ret ?_ | refine f_nx ?_
    | ((with_reducible refine g_keep ?_ ?_ ?_); (focus walk_at "kp"); (focus rfl))
    | (with_reducible refine w_str ?_ ?_; decide +kernel)
    | walk_at "f"
    | with_reducible refine f_body ?_)
  | ((with_reducible show WS _ _); first
    | with_reducible first | refine s_seqN ?_ | refine s_seq ?_ | refine q_nx ?_
    | ((with_reducible apply s_set); (focus walk_at "set"))
    | with_reducible first | refine s_expr ?_ | refine s_ret ?_ | refine s_if ?_ | refine s_nil ?_ | refine q_ret ?_ | refine s_unp ?_ | refine s_sub ?_ | refine s_for ?_ | refine q_cnt ?_ | refine q_brk ?_ | refine q_exc ?_ | refine s_retN ?_ | refine s_cnt ?_ | refine s_brk ?_ | refine s_pass ?_)
  | ((with_reducible show Op _ _); first
    | ((with_reducible apply t_n); (focus walk_at "set"))
    | with_reducible first
      | refine t_cons ?_ | refine t_nil ?_ | refine t_tup ?_ | refine i_tup ?_
      | refine o_lenT ?_
      | refine o_eqS ?_ | refine o_eqI ?_ | refine o_eqB ?_ | refine o_neI ?_ | refine o_neS ?_ | refine o_neB ?_ | refine o_is ?_ | refine o_isNot ?_ | refine o_isT ?_ | refine o_isNT ?_ | refine o_isF ?_ | refine o_isNF ?_
      | refine o_addI ?_ | refine o_sub ?_ | refine o_neg ?_ | refine o_ltI ?_ | refine o_le ?_ | refine o_gt ?_ | refine o_ge ?_ | refine o_iadd ?_
      | refine tr_bl ?_ | refine ty_bl ?_ | refine ty_str ?_ | refine ty_tup ?_ | refine ty_int ?_ | refine o_tupT ?_
      | refine o_lenF ?_ | refine o_lenS ?_ | refine o_intB ?_ | refine o_intI ?_ | refine o_max ?_ | refine o_min ?_ | refine i_str ?_ | refine k_s ?_ | refine k_i ?_
    | ((with_reducible apply o_idxT); (focus first | exact at0 _ _ | exact at1 _ _ _ | exact at2 _ _ _ _ | exact at3 _ _ _ _ _))
    | ((with_reducible apply i_ref); (focus walk_at "sget"))
    | ((with_reducible apply o_getL); (focus walk_at "sget"))
    | ((with_reducible apply o_lenR); (focus walk_at "sget"))
    | ((with_reducible apply o_idxR); (focus walk_at "sget"); (focus first | exact at0 _ _ | exact at1 _ _ _ | exact at2 _ _ _ _))
    | ((with_reducible apply o_tupR); (focus walk_at "sget"))
    | ((with_reducible apply o_listR); (focus walk_at "sget"))
    | ((with_reducible refine o_mod ?_ ?_); (focus omega))
    | ((with_reducible refine o_div ?_ ?_); (focus omega))
    | ((with_reducible refine o_pow ?_ ?_); (focus decide))
    | ((with_reducible refine o_app ?_ ?_); (focus walk_at "len"))
    | walk_at "f")
  | with_reducible first | refine b_is ?_ | refine i_is ?_ | refine s_is ?_ | refine Br.tt ?_ | refine Br.ff ?_ | refine Br.nf ?_ | refine Br.nt ?_ | refine lnew ?_ | refine il_none ?_ | refine il_some ?_ | refine revT ?_ | refine slcT ?_ | refine slcS ?_
  | ((with_reducible refine Br.of_tt ?_ ?_); focus (first | assumption | rfl | exact beq_self_eq_true _ | (simp only [decide_eq_true_eq]; omega)))
  | ((with_reducible refine Br.of_ff ?_ ?_); focus (first | assumption | rfl | (rw [beq_self_eq_true]; rfl) | (simp only [decide_eq_false_iff_not]; omega)))
  | ((with_reducible refine And.intro ?_ ?_); (focus first | ((with_reducible show _ ≤ sizeLine); walk_at "len") | ((with_reducible show lkOk _ _); walk_at "sget")))
  | ((with_reducible refine seek_nx ?_ ?_); (focus rfl); walk_at "off") | ((with_reducible refine seek_cnt ?_ ?_); (focus rfl); walk_at "off") | ((with_reducible refine seek_ret ?_); focus rfl))
local macro_rules | `(tactic| walk_at "b") => `(tactic| with_reducible first | refine b_is ?_ | refine Br.tt ?_ | refine Br.ff ?_ | refine Br.nf ?_ | refine Br.nt ?_ | refine tr_bl ?_)
local macro_rules | `(tactic| walk_at "y") => `(tactic| (fail_if_success (with_reducible refine s_if ?_)); walk_at "x")
local macro_rules | `(tactic| walk_at "f") => `(tactic| with_reducible first | refine w_iEn ?_ | refine w_iZp ?_ | refine zs_two ?_ | refine en_tup ?_ | refine en_frl ?_ | refine z_tup ?_ | refine i_frl ?_ | refine w_revT ?_)
/-! Fw41 -/
/-! Fw42 -/
/-! Fw43: what a kind is, by the law's own look. -/
/-! Fw44 -/
section
/-! ### a store of lists and dicts alone; how wide things are -/
theorem wids_le {n : Nat} {xs : List PV} : wids xs ≤ n ↔ ∀ x ∈ xs, wid x ≤ n := by
  induction xs with
  | nil => simp [wids]
  | cons x xs ih => simp only [wids, Nat.max_le, ih, List.mem_cons, forall_eq_or_imp]
theorem wid_tup {n : Nat} {xs : List PV} : wid (.tup xs) ≤ n ↔ xs.length ≤ n ∧ ∀ x ∈ xs, wid x ≤ n := by
  rw [wid, Nat.max_le, wids_le]
end
/-! Fw45 -/
section
theorem wOk_tup {n m : Nat} {ys : List PV} : wOk n m (.tup ys) ↔ ys.length ≤ n ∧ ∀ y ∈ ys, wOk n m y := by
  unfold wOk
  rw [wid_tup, PV.low, lows_iff]
  constructor
  · rintro ⟨a, b, c⟩; exact ⟨b, fun y hy => ⟨a y hy, c y hy⟩⟩
  · rintro ⟨a, b⟩; exact ⟨fun y hy => (b y hy).1, a, fun y hy => (b y hy).2⟩
end
/-! Fw46 -/
/-! Fw47 -/
section
local macro_rules | `(tactic| walk_at "f") => `(tactic| ((with_reducible apply o_idxR); (focus walk_at "sget"); (focus first | exact atI_nat (j := 0) rfl | exact atI_nat (j := 1) rfl | exact atI_nat (j := 2) rfl | exact atI_nat (j := 3) rfl | exact atI_nat (j := 4) rfl | exact atI_nat (j := 5) rfl | exact atI_nat (j := 6) rfl | exact atI_nat (j := 7) rfl)))
local macro_rules | `(tactic| walk_at "fr") => `(tactic| first | assumption | (refine Fr.kp ?_ (Kp.app _ _); walk_at "fr"))
local macro_rules | `(tactic| walk_at "ld") => `(tactic| first | assumption | (refine AllLD.one ?_ rfl; walk_at "ld"))
def wOks (n m : Nat) (ys : List PV) : Prop := ∀ y ∈ ys, wOk n m y
theorem wOks_nil {n m : Nat} : wOks n m [] := fun _ h => by cases h
theorem wOks_cons {n m : Nat} {y : PV} {ys : List PV} (h : wOk n m y) (t : wOks n m ys) : wOks n m (y :: ys) := fun z hz => by
  rcases List.mem_cons.mp hz with rfl | hz
  · exact h
  · exact t z hz
theorem wOk_lit {n m : Nat} {ys : List PV} (hl : Nat.ble ys.length n = true) (h : wOks n m ys) : wOk n m (.tup ys) := wOk_tup.mpr ⟨Nat.le_of_ble_eq_true hl, h⟩
theorem wOk_str (n m : Nat) (z : Str) : wOk n m (.str z) := ⟨rfl, by simp [wid]⟩
theorem wOk_bl (n m : Nat) (z : Bool) : wOk n m (.bl z) := ⟨rfl, by simp [wid]⟩
theorem wOk_non (n m : Nat) : wOk n m .non := ⟨rfl, by simp [wid]⟩
theorem wOk_cut {n m : Nat} {ws : List Str} {l h : Option Int} {f : Str → PV} (hl : Nat.ble ws.length n = true) (g : ∀ o, wOk n m (f o)) : wOk n m (.tup ((cutL ws l h).map f)) :=
  wOk_tup.mpr ⟨by rw [List.length_map]; exact Nat.le_trans (cutL_len _ _ _) (Nat.le_of_ble_eq_true hl), fun y hy => by obtain ⟨o, ho, rfl⟩ := List.mem_map.mp hy; exact g o⟩
local macro_rules | `(tactic| walk_at "wk") => `(tactic| repeat first | with_reducible exact wOk_str _ _ _ | with_reducible exact wOk_bl _ _ _ | with_reducible exact wOk_non _ _ | with_reducible exact wOks_nil | with_reducible refine wOks_cons ?_ ?_ | ((with_reducible refine wOk_cut ?_ (fun _ => ?_)); (focus rfl)) | ((with_reducible refine wOk_lit ?_ ?_); (focus rfl)))
end
/-! Fw48 -/
end Ev
namespace Ev
open PySem PySem.Spec PyProof.Rows L2 SX
open Sem (wp)
/-! Fw49: t[::-1] of a tuple. -/
section
section
variable {X : Cx} {W : WX} {e : Expr} {te : TE} {ev : TV} {k : Nat} {p1 p2 p3 pos : Pos}
def vRevT (a : TV) : TV := fun ρ S => (a ρ S).bind fun x S => match x with
  | .tup xs => .ok (.tup xs.reverse) S
  | _ => .bad
end
section
variable {Q : PV → Store → Prop} {E : PX → Store → Prop} {ρ : Env'} {S : Store} {a : TV}
def RevT (x : PV) (S : Store) (Q : PV → Store → Prop) : Prop := match x with
  | .tup xs => Q (.tup xs.reverse) S
  | _ => False
theorem w_revT (h : W (a ρ S) (fun x S => RevT x S Q) E) : W (vRevT a ρ S) Q E := by
  refine W_bind (W_mono h (fun x S h => ?_) fun _ _ h => h)
  cases x with
  | tup xs => exact h
  | _ => exact h.elim
theorem revT {xs : List PV} (q : Q (.tup xs.reverse) S) : RevT (.tup xs) S Q := q
end
end
end Ev
namespace Ev
open PySem PySem.Spec PyProof.Rows L2 SX
local macro_rules | `(tactic| walk_at "w") => `(tactic| first
  | (with_reducible apply s_set; focus (repeat first | exact SetR.zero | apply SetR.succ))
  | (with_reducible apply w_get; focus (repeat first | exact GetR.zero | apply GetR.succ))
  | with_reducible first
  | refine s_seqN ?_ | refine s_seq ?_ | refine q_nx ?_ | refine q_ret ?_ | refine q_brk ?_ | refine q_cnt ?_ | refine q_exc ?_
  | refine s_nil ?_ | refine s_pass ?_ | refine s_brk ?_ | refine s_cnt ?_ | refine s_expr ?_ | refine s_ret ?_ | refine s_retN ?_ | refine s_if ?_ | refine s_unp ?_ | refine s_sub ?_ | refine s_for ?_
  | refine w_c ?_ | (refine w_str ?_ ?_; decide +kernel) | refine w_bin ?_ | refine w_un ?_ | refine w_chn ?_ | refine w_bV ?_ | refine w_bBl ?_ | refine w_bAnd ?_ | refine w_bOr ?_ | refine w_bNot ?_ | refine w_bYes ?_
  | refine w_vAnd ?_ | refine w_vOr ?_ | refine w_vNot ?_ | refine w_vIf ?_ | refine w_nil ?_ | refine w_cons ?_ | refine w_tup ?_ | refine w_disp ?_ | refine w_new ?_ | refine lnew ?_ | refine w_oNone ?_ | refine w_oSome ?_ | refine w_slc ?_ | refine w_lslc ?_ | refine slcT ?_ | refine slcS ?_
  | refine w_call ?_ | refine w_callL ?_ | refine w_lcallL ?_ | refine w_lcallN ?_ | refine w_isi ?_ | refine w_app ?_ | refine w_app0 ?_ | refine w_lval ?_ | refine w_cat ?_ | refine w_eqL ?_ | refine w_lm ?_ | refine w_ext ?_ | refine w_sm ?_ | refine w_sm0 ?_ | refine w_lsm ?_ | refine w_smL ?_ | refine w_dic0 ?_ | refine w_dic1 ?_ | refine w_iV ?_ | refine w_iL ?_ | refine il_none ?_ | refine il_some ?_ | refine w_rng ?_ | refine w_comp ?_ | refine w_rev ?_ | refine w_lenSet ?_ | refine w_extV ?_
  | refine o_addI ?_ | refine o_iadd ?_ | refine o_sub ?_ | refine o_neg ?_ | refine o_ltI ?_ | refine o_le ?_ | refine o_gt ?_ | refine o_ge ?_ | refine o_is ?_ | refine o_isNot ?_ | refine o_lenT ?_ | refine o_lenF ?_ | refine o_lenS ?_ | refine o_intB ?_ | refine o_intI ?_ | refine o_max ?_ | refine o_min ?_ | refine o_tupT ?_ | refine o_eqI ?_ | refine o_eqS ?_ | refine o_eqB ?_
  | refine b_is ?_ | refine i_is ?_ | refine s_is ?_ | refine i_tup ?_ | refine i_str ?_ | refine tr_bl ?_ | refine ty_bl ?_ | refine ty_str ?_ | refine ty_tup ?_ | refine ty_int ?_ | refine k_s ?_ | refine k_i ?_
  | refine Br.tt ?_ | refine Br.ff ?_ | refine Br.nf ?_ | refine Br.nt ?_ | refine f_ret ?_ | refine f_nx ?_ | refine f_body ?_)
local macro_rules | `(tactic| walk_at "sget") => `(tactic| first
  | assumption | exact get_app _ _ _ | exact trivial
  | (refine get_set ?_; walk_at "sget") | (refine get_app_lt ?_; walk_at "sget"))
local macro_rules | `(tactic| walk_at "len") => `(tactic| first
  | exact Nat.zero_le _ | exact len_le rfl
  | (have hbig := sizeLine_eq; simp only [List.length_map, List.length_cons, List.length_nil, List.length_append, List.length_take, List.length_drop, List.length_reverse, List.length_set, List.length_range]; omega))
local macro_rules | `(tactic| walk_at "off") => `(tactic| focus rfl)
local macro_rules | `(tactic| walk_at "e") => `(tactic| simp only [wipeE, reset, List.foldl_cons, List.foldl_nil, List.set_cons_succ, List.set_cons_zero])
local macro_rules | `(tactic| walk_at "kp") => `(tactic| first | assumption | exact Kp.refl _ | exact Kp.app _ _ | (refine Kp.trans ?_ (Kp.app _ _); walk_at "kp"))
local macro_rules | `(tactic| walk_at "set") => `(tactic| first | exact setR0 | exact setR1 | exact setR2 | exact setR3 | exact setR4 | exact setR5 | exact setR6 | exact setR7 | exact setR8 | exact setR9 | exact setR10 | exact setR11 | exact setR12 | (repeat first | exact SetR.zero | apply SetR.succ))
local macro_rules | `(tactic| walk_at "f") => `(tactic| fail)
local macro_rules | `(tactic| walk_at "x") => `(tactic| first
  | ((with_reducible show W _ _ _); first
    | ((with_reducible apply w_var); (focus exact rfl))
    | with_reducible first | refine w_c ?_ | refine w_cons ?_ | refine w_nil ?_ | refine w_bin ?_ | refine w_app ?_ | refine w_call ?_ | refine w_tup ?_ | refine w_bBl ?_ | refine w_new ?_ | refine w_iV ?_ | refine w_comp ?_ | refine w_iL ?_ | refine w_bV ?_ | refine w_disp ?_ | refine w_vAnd ?_ | refine w_vOr ?_ | refine w_bAnd ?_ | refine w_bOr ?_ | refine w_bNot ?_ | refine w_bYes ?_ | refine w_isi ?_ | refine w_callL ?_ | refine w_lval ?_ | refine w_lm ?_ | refine w_chn ?_ | refine w_un ?_ | refine w_oNone ?_ | refine w_oSome ?_ | refine w_slc ?_ | refine w_lslc ?_ | refine w_rng ?_ | refine w_vNot ?_ | refine w_vIf ?_ | refine w_cat ?_ | refine w_eqL ?_ | refine w_lenSet ?_ | refine w_app0 ?_ | refine w_extV ?_ | refine w_ext ?_ | refine w_lcallL ?_ | refine w_lcallN ?_ | refine w_sm ?_ | refine w_sm0 ?_ | refine w_lsm ?_ | refine w_smL ?_ | refine w_dic0 ?_ | refine w_dic1 ?_ | refine w_rev ?_ | refine f_ret ?_ | refine f_nx ?_
    | ((with_reducible refine g_keep ?_ ?_ ?_); (focus walk_at "kp"); (focus rfl))
    | (with_reducible refine w_str ?_ ?_; decide +kernel)
    | walk_at "f"
    | with_reducible refine f_body ?_)
  | ((with_reducible show WS _ _); first
    | with_reducible first | refine s_seqN ?_ | refine s_seq ?_ | refine q_nx ?_
    | ((with_reducible apply s_set); (focus walk_at "set"))
    | with_reducible first | refine s_expr ?_ | refine s_ret ?_ | refine s_if ?_ | refine s_nil ?_ | refine q_ret ?_ | refine s_unp ?_ | refine s_sub ?_ | refine s_for ?_ | refine q_cnt ?_ | refine q_brk ?_ | refine q_exc ?_ | refine s_retN ?_ | refine s_cnt ?_ | refine s_brk ?_ | refine s_pass ?_)
  | ((with_reducible show Op _ _); first
    | ((with_reducible apply t_n); (focus walk_at "set"))
    | with_reducible first
      | refine t_cons ?_ | refine t_nil ?_ | refine t_tup ?_ | refine i_tup ?_
      | refine o_lenT ?_
      | refine o_eqS ?_ | refine o_eqI ?_ | refine o_eqB ?_ | refine o_neI ?_ | refine o_neS ?_ | refine o_neB ?_ | refine o_is ?_ | refine o_isNot ?_ | refine o_isT ?_ | refine o_isNT ?_ | refine o_isF ?_ | refine o_isNF ?_
      | refine o_addI ?_ | refine o_sub ?_ | refine o_neg ?_ | refine o_ltI ?_ | refine o_le ?_ | refine o_gt ?_ | refine o_ge ?_ | refine o_iadd ?_
      | refine tr_bl ?_ | refine ty_bl ?_ | refine ty_str ?_ | refine ty_tup ?_ | refine ty_int ?_ | refine o_tupT ?_
      | refine o_lenF ?_ | refine o_lenS ?_ | refine o_intB ?_ | refine o_intI ?_ | refine o_max ?_ | refine o_min ?_ | refine i_str ?_ | refine k_s ?_ | refine k_i ?_
    | ((with_reducible apply o_idxT); (focus first | exact at0 _ _ | exact at1 _ _ _ | exact at2 _ _ _ _ | exact at3 _ _ _ _ _))
    | ((with_reducible apply i_ref); (focus walk_at "sget"))
    | ((with_reducible apply o_getL); (focus walk_at "sget"))
    | ((with_reducible apply o_lenR); (focus walk_at "sget"))
    | ((with_reducible apply o_idxR); (focus walk_at "sget"); (focus first | exact at0 _ _ | exact at1 _ _ _ | exact at2 _ _ _ _))
    | ((with_reducible apply o_tupR); (focus walk_at "sget"))
    | ((with_reducible apply o_listR); (focus walk_at "sget"))
    | ((with_reducible refine o_mod ?_ ?_); (focus omega))
    | ((with_reducible refine o_div ?_ ?_); (focus omega))
    | ((with_reducible refine o_pow ?_ ?_); (focus decide))
    | ((with_reducible refine o_app ?_ ?_); (focus walk_at "len"))
    | walk_at "f")
  | with_reducible first | refine b_is ?_ | refine i_is ?_ | refine s_is ?_ | refine Br.tt ?_ | refine Br.ff ?_ | refine Br.nf ?_ | refine Br.nt ?_ | refine lnew ?_ | refine il_none ?_ | refine il_some ?_ | refine revT ?_ | refine slcT ?_ | refine slcS ?_
  | ((with_reducible refine Br.of_tt ?_ ?_); focus (first | assumption | rfl | exact beq_self_eq_true _ | (simp only [decide_eq_true_eq]; omega)))
  | ((with_reducible refine Br.of_ff ?_ ?_); focus (first | assumption | rfl | (rw [beq_self_eq_true]; rfl) | (simp only [decide_eq_false_iff_not]; omega)))
  | ((with_reducible refine And.intro ?_ ?_); (focus first | ((with_reducible show _ ≤ sizeLine); walk_at "len") | ((with_reducible show lkOk _ _); walk_at "sget")))
  | ((with_reducible refine seek_nx ?_ ?_); (focus rfl); walk_at "off") | ((with_reducible refine seek_cnt ?_ ?_); (focus rfl); walk_at "off") | ((with_reducible refine seek_ret ?_); focus rfl))
local macro_rules | `(tactic| walk_at "b") => `(tactic| with_reducible first | refine b_is ?_ | refine Br.tt ?_ | refine Br.ff ?_ | refine Br.nf ?_ | refine Br.nt ?_ | refine tr_bl ?_)
local macro_rules | `(tactic| walk_at "y") => `(tactic| (fail_if_success (with_reducible refine s_if ?_)); walk_at "x")
local macro_rules | `(tactic| walk_at "f") => `(tactic| with_reducible first | refine w_iEn ?_ | refine w_iZp ?_ | refine zs_two ?_ | refine en_tup ?_ | refine en_frl ?_ | refine z_tup ?_ | refine i_frl ?_ | refine w_revT ?_)
/-! Fw50 -/
/-! Fw51 -/
/-! Fw52 -/
/-! Fw53: sum of a list of whole numbers. -/
/-! Fw54 -/
/-! Fw55 -/
/-! Fw56 -/
section
local macro_rules | `(tactic| walk_at "f") => `(tactic| first
  | ((with_reducible refine o_eqE ?_))
  | ((with_reducible apply o_idxR); (focus walk_at "sget"); (focus first | exact atI_nat (j := 0) rfl | exact atI_nat (j := 1) rfl | exact atI_nat (j := 2) rfl | exact atI_nat (j := 3) rfl | exact atI_nat (j := 4) rfl | exact atI_nat (j := 5) rfl)))
section
variable {Q : PV → Store → Prop} {E : PX → Store → Prop} {S0 : Store}
theorem o_eqE {P : Bool → Prop} {l : List PV} {S0 : Store} (q : P l.isEmpty) : Op (eqS S0 (.frl l) (.frl [])) P := Op.of (eq_empty _) q
/-! ### kinds of decks -/
theorem at_two {x y : PV} {b : Bool} : atI [x, y] (if b then 1 else 0) = some (if b then y else x) := by cases b <;> rfl
theorem at_opt {l : List Str} {n : Nat} {r : Int} (r0 : 0 ≤ r) (r1 : r < l.length + n) : ∃ o : Option Str, atI (l.map .str ++ List.replicate n .non) r = some (eO o) ∧ nmO o l := by
  obtain ⟨k, rfl⟩ := Int.eq_ofNat_of_zero_le r0
  by_cases h : k < l.length
  · refine ⟨some l[k], ?_, fun z hz => by cases hz; exact List.getElem_mem h⟩
    unfold atI
    rw [ixN_in (by omega) (by simp; omega), Int.toNat_natCast]
    show (_ ++ _)[_]? = _
    rw [ List.getElem?_append_left (by simpa using h), List.getElem?_map, List.getElem?_eq_getElem h]; rfl
  · refine ⟨none, ?_, fun z hz => by cases hz⟩
    unfold atI
    rw [ixN_in (by omega) (by simp; omega), Int.toNat_natCast]
    show (_ ++ _)[_]? = _
    rw [ List.getElem?_append_right (by simp; omega), List.getElem?_replicate, if_pos (by simp; omega)]; rfl
end
end
/-! Fw57: rows as they are drawn, in plain Lean. -/
section
/-! ### what a row is -/
/-! ### the rows within a word -/
/-! ### rows are data -/
end
/-! Fw58: rows are drawn. -/
section
local macro_rules | `(tactic| walk_at "f") => `(tactic| ((with_reducible apply o_idxR); (focus walk_at "sget"); (focus first | exact atI_nat (j := 0) rfl | exact atI_nat (j := 1) rfl | exact atI_nat (j := 2) rfl | exact atI_nat (j := 3) rfl | exact atI_nat (j := 4) rfl | exact atI_nat (j := 5) rfl)))
section
variable {Q : PV → Store → Prop} {E : PX → Store → Prop} {S0 : Store}
section
variable {C : RC} {i a b n sp : Nat} {S T : Store}
end
end
end
/-! Fw59: words are drawn. -/
/-! Fw60: programs are drawn. -/
section
local macro_rules | `(tactic| walk_at "f") => `(tactic| ((with_reducible apply o_idxR); (focus walk_at "sget"); (focus first | exact atI_nat (j := 0) rfl | exact atI_nat (j := 1) rfl | exact atI_nat (j := 2) rfl | exact atI_nat (j := 3) rfl | exact atI_nat (j := 4) rfl | exact atI_nat (j := 5) rfl)))
end
/-! Fw61 -/
section
local macro_rules | `(tactic| walk_at "f") => `(tactic| ((with_reducible apply o_idxR); (focus walk_at "sget"); (focus first | exact atI_nat (j := 0) rfl | exact atI_nat (j := 1) rfl | exact atI_nat (j := 2) rfl | exact atI_nat (j := 3) rfl | exact atI_nat (j := 4) rfl | exact atI_nat (j := 5) rfl)))
/-! ### the shape of a word -/
section
variable {Q : PV → Store → Prop} {E : PX → Store → Prop} {S0 : Store}
end
end
/-! Fw62 -/
section
local macro_rules | `(tactic| walk_at "f") => `(tactic| ((with_reducible apply o_idxR); (focus walk_at "sget"); (focus first | exact atI_nat (j := 0) rfl | exact atI_nat (j := 1) rfl | exact atI_nat (j := 2) rfl | exact atI_nat (j := 3) rfl | exact atI_nat (j := 4) rfl | exact atI_nat (j := 5) rfl)))
end
/-! Fw63 -/
/-! Fw64: the law on words counted. -/
/-! Fw65: tuple * number, list * number. -/
section
/-! ### list * number -/
noncomputable def lRep (a : TL) (e : TV) : TL := fun ρ S => (a ρ S).bind fun l S => (e ρ S).bind fun x S => match x with
  | .int n => if lkOk l S ∧ (-1000 ≤ n ∧ n ≤ 1000) ∧ l.1.length ≤ 1000 then .ok ((List.replicate n.toNat l.1).flatten, none) S else .bad
  | _ => .bad
section
variable {QL : LL → Store → Prop} {E : PX → Store → Prop} {ρ : Env'} {S : Store} {la : TL} {e : TV}
theorem w_rep (h : W (la ρ S) (fun l S => W (e ρ S) (fun x S => IsI x fun n => (lkOk l S ∧ (-1000 ≤ n ∧ n ≤ 1000) ∧ l.1.length ≤ 1000) ∧ QL ((List.replicate n.toNat l.1).flatten, none) S) E) E) : W (lRep la e ρ S) QL E := by
  refine W_bind (W_mono h (fun l S h => W_bind (W_mono h (fun x S h => ?_) fun _ _ h => h)) fun _ _ h => h)
  cases x with
  | int n =>
    have h : (lkOk l S ∧ (-1000 ≤ n ∧ n ≤ 1000) ∧ l.1.length ≤ 1000) ∧ QL ((List.replicate n.toNat l.1).flatten, none) S := h
    dsimp only
    rw [if_pos h.1]; exact h.2
  | _ => exact h.elim
end
end
/-! Fw66: places, in plain Lean; loops over range. -/
section
/-! ### loops over range -/
section
variable {tg : Tgt} {b : TSt} {ρ : Env'} {S : Store} {Q : SR → Prop}
theorem rangeL_cons (k n : Nat) : rangeL (k : Int) (n + 1) = .int (k : Int) :: rangeL ((k + 1 : Nat) : Int) n := by
  unfold rangeL
  rw [List.range_succ_eq_map, List.map_cons, List.map_map]
  have e : ∀ i : Nat, (PV.int ((k : Int) + ((Nat.succ i : Nat) : Int))) = PV.int (((k + 1 : Nat) : Int) + (i : Int)) := fun i => by
    congr 1
    omega
  rw [show (PV.int ((k : Int) + ((0 : Nat) : Int))) = PV.int (k : Int) from by congr 1]
  exact congrArg _ (List.map_congr_left fun i _ => e i)
theorem s_rngF {lo n : Nat} (I : Nat → Env' → Store → Prop) (h0 : I lo ρ S) (step : ∀ k, lo ≤ k → k < lo + n → ∀ ρ T, I k ρ T → Op (tg (.int (k : Int)) ρ) fun ρ1 => WS (b ρ1 T) fun o => TurnOk o (I (k + 1)) Q)
    (done : ∀ ρ T, I (lo + n) ρ T → Q (.nx ρ T)) : WS (forL tg b (rangeL (lo : Int) n, none) (rangeL (lo : Int) n) ρ S) Q := by
  refine s_loop (l := (rangeL (lo : Int) n, none)) (fun rest ρ T => ∃ k, lo ≤ k ∧ k ≤ lo + n ∧ rest = rangeL (k : Int) (lo + n - k) ∧ I k ρ T) ⟨lo, Nat.le_refl _, by omega, by rw [Nat.add_sub_cancel_left], h0⟩ (fun x r ρ T H => ?_) (fun ρ T H => ?_)
  · obtain ⟨k, h1, h2, hr, hI⟩ := H
    refine ⟨trivial, ?_⟩
    cases hm : lo + n - k with
    | zero => rw [hm] at hr; simp [rangeL] at hr
    | succ m =>
      rw [hm, rangeL_cons] at hr
      cases hr
      have st := step k h1 (by omega) ρ T hI
      cases ht : tg (.int (k : Int)) ρ with
      | none => rw [ht] at st; exact st.elim
      | some ρ1 =>
        rw [ht] at st
        have st : TurnOk (b ρ1 T) (I (k + 1)) Q := st
        show TurnOk (b ρ1 T) _ Q
        have e : ∀ ρ' S', I (k + 1) ρ' S' → ∃ k_1, lo ≤ k_1 ∧ k_1 ≤ lo + n ∧ rangeL ((k + 1 : Nat) : Int) m = rangeL (k_1 : Int) (lo + n - k_1) ∧ I k_1 ρ' S' := fun ρ' S' h => ⟨k + 1, by omega, by omega, by congr 1; omega, h⟩
        generalize b ρ1 T = o at *
        cases o with
        | nx ρ' S' => exact e _ _ st
        | cnt ρ' S' => exact e _ _ st
        | brk ρ' S' => exact st
        | ret v S' => exact st
        | exc x ρ' S' => exact st
        | bad => exact st
  · obtain ⟨k, h1, h2, hr, hI⟩ := H
    refine ⟨trivial, done ρ T ?_⟩
    cases hm : lo + n - k with
    | zero => rw [show lo + n = k by omega]; exact hI
    | succ m => rw [hm, rangeL_cons] at hr; cases hr
theorem s_rng {n : Nat} (I : Nat → Env' → Store → Prop) (h0 : I 0 ρ S) (step : ∀ k < n, ∀ ρ T, I k ρ T → Op (tg (.int (k : Int)) ρ) fun ρ1 => WS (b ρ1 T) fun o => TurnOk o (I (k + 1)) Q)
    (done : ∀ ρ T, I n ρ T → Q (.nx ρ T)) : WS (forL tg b (rangeL 0 n, none) (rangeL 0 n) ρ S) Q :=
  s_rngF (lo := 0) (n := n) I h0 (fun k _ h => step k (by omega)) (by rw [Nat.zero_add]; exact done)
end
/-! ### places -/
/-! ### the law's own walk -/
end
/-! Fw67: row_at, word_at, behind, inside, out_of. -/
section
end
/-! Fw68: inside, out_of. -/
/-! Fw69: the law's own walk through the places. -/
section
section
variable {z : Str} {U T : Store} {j n0 : Nat}
theorem Ents.off {es : List Ent} {vs : List PV} {i : Nat} {o : PObj} (h : Ents z U j n0 es vs) (hj : j ≠ i) (hn : i < n0) : Ents z (U.set i o) j n0 es vs := h.map fun e v _ ⟨j', h1, h2, h3⟩ => ⟨j', h1, by
  rw [List.getElem?_set_ne]
  · exact h2
  · rcases h3 with h3 | h3 <;> omega, h3⟩
end
end
/-! Fw70 -/
/-! Fw71 -/
/-! Fw72: the order of data, in plain Lean. -/
section
/-! ### rows of numbers, one ahead of the other -/
/-! ### data as rows of numbers -/
/-! ### set in order -/
end
/-! Fw73: the order of data, in the model; sorted. -/
section
section
variable {K : PySem.W.Frag} {μ : List Addr} {X : Cx} {H : Hp} {s : Shared} {σ : L2.St} {pins : List (Addr × Obj)}
end
end
/-! Fw74: sorted. -/
/-! Fw75: sorted, as a rule. -/
section
open Classical in
/-! ### sorted of a tuple -/
end
/-! Fw76: the places of a row, in order. -/
section
/-! ### the numbers of the places -/
def rel : Nat → List PV → List (List Int)
  | 0, _ => []
  | n + 1, ws => (List.range ws.length).flatMap fun (i : Nat) => [(i : Int)] :: (List.range (inner (ws.getD i .non)).length).flatMap fun (k : Nat) => (rel n (items ((inner (ws.getD i .non)).getD k .non))).map fun ns => (i : Int) :: (k : Int) :: ns
/-! ### places_in -/
end
/-! Fw77: the law on places told. -/
/-! Fw78 -/
section
end
/-! Fw79: numbers and names of the laws on standings. -/
section
def sw (l : List Nat) (p f k : Nat) : Str := SX.S (l.set p (97 + (f + k) % 26) ++ [113] ++ List.replicate (k % 2) 122)
section
variable {Q : PV → Store → Prop} {E : PX → Store → Prop} {S0 : Store}
end
end
/-! Fw80 -/
/-! Fw81 -/
/-! Fw82: standings; room. -/
section
def eSd (hs : List Hold) (ls : List Look) : PV := .tup [.tup (hs.map eHo), .tup (ls.map eLo)]
section
variable {Q : PV → Store → Prop} {E : PX → Store → Prop} {S0 : Store}
end
end
/-! Fw83: standings are drawn. -/
section
local macro_rules | `(tactic| walk_at "f") => `(tactic| (with_reducible refine w_lcallN ?_))
end
/-! Fw84 -/
/-! Fw85: the law on what is held, and on room. -/
/-! Fw86: paths of standings; the law on what is held. -/
/-! Fw87: join of a tuple, str, strip. -/
/-! Fw88: texts: how long, how they end; texts of rows in plain Lean. -/
section
/-! ### texts -/
/-! ### texts of rows -/
end
/-! Fw89 -/
section
/-! ### adding and joining texts -/
theorem o_addX {P : PV → Prop} {a b : Str} {S : Store} {n m : Nat} (ha : Tx n a) (hb : Tx m b) (h : n + m ≤ 16777216) (q : P (.str (a ++ b))) : Op (oAdd (.str a) (.str b) S) P :=
  o_addS (by rw [sizeLine_eq]; have := ha.1; have := hb.1; omega) q
end
/-! Fw90: the texts of rows, as the program tells them. -/
section
local macro_rules | `(tactic| walk_at "f") => `(tactic| ((with_reducible apply o_idxR); (focus walk_at "sget"); (focus first | exact atI_nat (j := 0) rfl | exact atI_nat (j := 1) rfl | exact atI_nat (j := 2) rfl | exact atI_nat (j := 3) rfl | exact atI_nat (j := 4) rfl | exact atI_nat (j := 5) rfl)))
theorem tx1 {z : Str} (h : (decide (z.length ≤ 9) && z.cps.toList.all fun c => decide (c < 1114112)) = true) : Tx 9 z := Tx.lit h
end
/-! Fw91: the texts of rows, as the program tells them. -/
/-! Fw92: the texts of words, as the program tells them. -/
/-! Fw93: strip; the texts of rows, as the law tells them. -/
/-! Fw94: the texts of words, as the law tells them. -/
section
local macro_rules | `(tactic| walk_at "f") => `(tactic| ((with_reducible apply o_idxR); (focus walk_at "sget"); (focus first | exact atI_nat (j := 0) rfl | exact atI_nat (j := 1) rfl | exact atI_nat (j := 2) rfl | exact atI_nat (j := 3) rfl | exact atI_nat (j := 4) rfl | exact atI_nat (j := 5) rfl)))
local macro_rules | `(tactic| walk_at "f") => `(tactic| ((with_reducible apply o_addX); (focus repeat' (first | assumption | exact tx1 (by decide +kernel) | with_reducible apply Tx.app)); (focus repeat' (first | assumption | exact tx1 (by decide +kernel) | with_reducible apply Tx.app)); (focus omega)))
end
/-! Fw95: the words of kinds, as the program tells them. -/
/-! Fw96: the text of a kind, as the law tells it. -/
/-! Fw97: the text of a kind, as the law tells it: the walk. -/
/-! Fw98: rows by levels; the texts of defs and programs. -/
section
local macro_rules | `(tactic| walk_at "f") => `(tactic| ((with_reducible apply o_idxR); (focus walk_at "sget"); (focus first | exact atI_nat (j := 0) rfl | exact atI_nat (j := 1) rfl | exact atI_nat (j := 2) rfl | exact atI_nat (j := 3) rfl | exact atI_nat (j := 4) rfl | exact atI_nat (j := 5) rfl)))
local macro_rules | `(tactic| walk_at "f") => `(tactic| ((with_reducible apply o_addX); (focus repeat' (first | assumption | exact tx1 (by decide +kernel) | with_reducible apply Tx.app)); (focus repeat' (first | assumption | exact tx1 (by decide +kernel) | with_reducible apply Tx.app)); (focus omega)))
section
/-! ### defs and programs -/
variable {Q : PV → Store → Prop} {E : PX → Store → Prop} {S0 : Store}
end
end
/-! Fw99: the law on rows written. -/
section
local macro_rules | `(tactic| walk_at "f") => `(tactic| ((with_reducible apply o_idxR); (focus walk_at "sget"); (focus first | exact atI_nat (j := 0) rfl | exact atI_nat (j := 1) rfl | exact atI_nat (j := 2) rfl | exact atI_nat (j := 3) rfl | exact atI_nat (j := 4) rfl | exact atI_nat (j := 5) rfl)))
end
/-! Fw100: the law on rows written. -/
section
local macro_rules | `(tactic| walk_at "f") => `(tactic| ((with_reducible apply o_idxR); (focus walk_at "sget"); (focus first | exact atI_nat (j := 0) rfl | exact atI_nat (j := 1) rfl | exact atI_nat (j := 2) rfl | exact atI_nat (j := 3) rfl | exact atI_nat (j := 4) rfl | exact atI_nat (j := 5) rfl)))
end
end Ev
namespace Ev
open PySem PySem.Spec PyProof.Rows L2
/-! Fw101: exceptions: raised, caught as a thing of the store. -/
section
/-! ### the heap with the caught exception tracked -/
/-! ### try: body, except x as n: suite -/
/-! ### what it is worth -/
/-- behind the suite the name is gone -/
def SR.off (i : Nat) : SR → SR
  | .nx ρ S => .nx (ρ.set i none) S
  | .brk ρ S => .brk (ρ.set i none) S
  | .cnt ρ S => .cnt (ρ.set i none) S
  | .ret v S => .ret v S
  | .exc _ _ _ => .bad
  | .bad => .bad
/-- try: a, except x as (slot i): b; t: which classes are caught -/
def sTryAs (i : Nat) (t : Str → Option Bool) (a b : TSt) : TSt := fun ρ S => match a ρ S with
  | .exc e ρ' S' => match t e.nm with
    | some true => (b (ρ'.set i (some (.ref S'.length))) (S' ++ [.exn e.nm e.fd])).off i
    | some false => .exc e ρ' S'
    | none => .bad
  | r => r

/-! ### raise -/
/-- raise C(e), C's own __init__ keeping it as f -/
def sRaise1 (C f : Str) (e : TV) : TSt := fun ρ S => (e ρ S).sr ρ fun x S => .exc ⟨C, [(f, x)]⟩ ρ S
section
variable {X : Cx} {W : WX} {x m : Str} {C : Addr} {j : Nat} {p p2 pos pos' : Pos}
theorem ss_raise0 {bmB : List Value} {B newId initId : String} (hc : X.calm = true) (tk : Takes X W) (F : ExcBaseFacts B newId initId bmB) (q : PySem.W.excIn X.K C bmB newId = true) (gC : X.mg x = some (.ref C)) (kC : PySem.W.keepIn X.K (.ref C) = true) (r : Raises X (.ref C)) (hg : Gl X x)
    (hdb : (x == ("__debug__" : Str)) = false := by decide) : PS X (.Raise (some (.Call (.Name x p) [.Constant (.str m) j p2] [] pos)) none pos') (S_ X W (sRaise0 x)) := by
  refine PS.imp (ps_raise hc tk (pmk_own F q gC kC r hg hdb)) fun D σ H h => ?_
  obtain ⟨μ, S, ρ, R, E, z⟩ := h
  exact z μ H σ _ none Ext.refl R E ⟨gC, .inl ⟨rfl, rfl⟩⟩
end
end
/-! Fw102: what is asked of a caught exception; own __init__; defs called within an except suite; the head's facts of classes. -/
section
/-! ### classes -/
theorem xclB_ok {K : PySem.W.Frag} {D : Addr} (h : xclB K D = true) : XCl K D := by
  simp only [xclB, Bool.and_eq_true, decide_eq_true_eq, List.all_eq_true] at h
  obtain ⟨h1, h2, h3, h4, h5, h6, h7, h8, h9, h10⟩ := h
  exact ⟨⟨h1, h2, h3, h4, h5, h6, h7, h8⟩, h2, h9, h10⟩
theorem xallB_ok {K : PySem.W.Frag} {h : Heap} {mg : Str → Option Value} (X : K.In h) (G : h.Ns mainGlobals mg) {rs ys : List Str} (c : xallB rs ys K = true) : XAll K mg rs ys := by
  unfold xallB at c
  simp only [Bool.and_eq_true, List.all_eq_true, decide_eq_true_eq] at c
  exact ⟨fun x hx => He.glo_ok X G (c.1 x hx).1, fun y hy => He.glo_ok X G (c.2 y hy), fun x hx => xclB_ok (c.1 x hx).2.1, fun x hx y hy => ((c.1 x hx).2.2.2 y hy).1, fun x hx y hy => ((c.1 x hx).2.2.2 y hy).2, fun x hx => (c.1 x hx).2.2.1⟩
/-! ### e.f, isinstance(e, ..) -/
section
variable {X : Cx} {W : WX} {a : Expr} {ea : TV} {pos p : Pos} {rs ys : List Str}
end
/-! ### an own __init__ -/
structure XNo (K : PySem.W.Frag) (mg : Str → Option Value) (x : Str) (C : Addr) : Prop where
  gl : mg x = some (.ref C)
  ec : PySem.W.excIn K C He.veBase "ValueError.__new__" = true
  kp : PySem.W.keepIn K (.ref C) = true
  sb : PySem.W.subIn K (.ref C) (.type "BaseException") = some true
  ty : PySem.W.typeIn K (.ref C) = some (.type "type")
theorem ss_raiseN {X : Cx} {W : WX} {x m : Str} {j : Nat} {p p2 pos pos' : Pos} (A : ∃ C, XNo X.K X.mg x C) (hc : X.calm = true) (tk : Takes X W) (hg : Gl X x)
    (hdb : (x == ("__debug__" : Str)) = false := by decide) : PS X (.Raise (some (.Call (.Name x p) [.Constant (.str m) j p2] [] pos)) none pos') (S_ X W (sRaise0 x)) := by
  obtain ⟨C, B⟩ := A
  exact ss_raise0 hc tk F.excBase_ValueError B.ec B.gl B.kp (raises_own B.sb B.ty) hg hdb
end
/-! Fw103: defs called within an except suite (they raise nothing). -/
section
theorem RoomA.deeper {k : Nat} {A : Around} (r : RoomA (k + 1) A) (env : Env) : RoomA k (A.deeper env) :=
  ⟨by have := r.dp; show A.depth + 1 + 3 * k + 5 < _; omega, by have := r.un; show A.units + 3 + 16 * k + 200 < _; omega⟩
/-- what a def promises, whatever is handled -/
structure FnA (P : Program) (w : World) (K : PySem.W.Frag) (mg : Str → Option Value) (base : Heap) (CX : CXT) (k : Nat) (f : Addr) (fd : FuncData) (ps : List Str) (sp : Sp) : Prop where
  len : ∀ vs H Q E, sp vs H Q E → vs.length = ps.length
  run : ∀ (A : Around) (outer : List Env) (s : Shared) (H : Hp) (args : Args) (us : List Value) (vs : List V) (Q : VK) (E : XK), RoomA k A → Env0 P w K mg base A outer s H → BindsTo s fd args (ps.zip us) → Vals vs us → sp vs H Q E →
    codeAny (model P w) A (.call (.ref f) args) (CR CX outer P w H s Q E) s
def FnAtA (P : Program) (w : World) (K : PySem.W.Frag) (mg : Str → Option Value) (base : Heap) (n : Nat) (x : Str) (ps : List Str) (F : FV) : Prop :=
  ∃ f fd, FnA P w K mg base (L2.CX P w) n f fd ps (spF K (cmM P w mg) ps.length F) ∧ mg x = some (.ref f) ∧ PySem.W.keepIn K (.ref f) = true ∧ Binds K fd ps []
end
/-! Fw104: what the head says of own __init__s; raise and try in the walk. -/
section
/-! ### the head -/
theorem xno_ok {K : PySem.W.Frag} {h : Heap} {mg : Str → Option Value} (X : K.In h) (G : h.Ns mainGlobals mg) {x : Str} (c : xnoB x K = true) : ∃ C, XNo K mg x C := by
  unfold xnoB at c
  rw [Bool.and_eq_true] at c
  obtain ⟨c1, c2⟩ := c
  obtain ⟨d1, d2, d3, d4⟩ := He.exc_ok c2
  exact ⟨_, He.glo_ok X G c1, d1, d2, d3, d4⟩
theorem obsS_eq {n : Nat} {fa : List He.Fa} {fn : List He.DefD} {ex : PySem.W.Frag → Bool} {g : Addr → Option Obj} {s : Shared} (h : ∀ a, g a = s.heap.get? a) : obsS n fa fn ex g = (hookS n fa fn ex).obs s := by
  have e : g = s.heap.get? := funext h
  rw [e] <;> rfl
/-! ### the walk -/
section
variable {Q : SR → Prop} {ρ : Env'} {S : Store} {e : TV} {a b : TSt} {i : Nat} {t : Str → Option Bool} {rs ys : List Str}
theorem s_raise0 {C : Str} (q : Q (.exc ⟨C, []⟩ ρ S)) : WS (sRaise0 C ρ S) Q := q
theorem s_raise1 {C f : Str} (q : W (e ρ S) (fun x S => Q (.exc ⟨C, [(f, x)]⟩ ρ S)) fun x S => Q (.exc x ρ S)) : WS (sRaise1 C f e ρ S) Q := WS_sr q
/-- what the clause makes of the body's end -/
def TryQ (i : Nat) (t : Str → Option Bool) (b : TSt) (Q : SR → Prop) : SR → Prop
  | .exc e ρ S => match t e.nm with
    | some true => WS (b (ρ.set i (some (.ref S.length))) (S ++ [.exn e.nm e.fd])) fun r => Q (r.off i)
    | some false => Q (.exc e ρ S)
    | none => False
  | r => Q r
theorem s_try (q : WS (a ρ S) (TryQ i t b Q)) : WS (sTryAs i t a b ρ S) Q := by
  unfold WS sTryAs
  unfold WS at q
  cases h : a ρ S with
  | exc e ρ' S' =>
    rw [h] at q
    dsimp only [TryQ] at q ⊢
    cases hn : t e.nm with
    | none => rw [hn] at q; exact q.elim
    | some k => rw [hn] at q; cases k <;> exact q
  | _ => rw [h] at q; exact q
theorem tq_nx (q : Q (.nx ρ S)) : TryQ i t b Q (.nx ρ S) := q
theorem tq_ret {v : PV} (q : Q (.ret v S)) : TryQ i t b Q (.ret v S) := q
end
section
variable {Q : PV → Store → Prop} {E : PX → Store → Prop} {ρ : Env'} {S T : Store} {e : TV} {rs ys : List Str}
theorem f_exc {x : PX} {ρ : Env'} (h : W (gcX S x T) Q E) : W (fin S (.exc x ρ T)) Q E := h
end
end
end Ev
namespace Ev
open PySem PySem.Spec PyProof.Rows L2 SX
local macro_rules | `(tactic| walk_at "w") => `(tactic| first
  | (with_reducible apply s_set; focus (repeat first | exact SetR.zero | apply SetR.succ))
  | (with_reducible apply w_get; focus (repeat first | exact GetR.zero | apply GetR.succ))
  | with_reducible first
  | refine s_seqN ?_ | refine s_seq ?_ | refine q_nx ?_ | refine q_ret ?_ | refine q_brk ?_ | refine q_cnt ?_ | refine q_exc ?_
  | refine s_nil ?_ | refine s_pass ?_ | refine s_brk ?_ | refine s_cnt ?_ | refine s_expr ?_ | refine s_ret ?_ | refine s_retN ?_ | refine s_if ?_ | refine s_unp ?_ | refine s_sub ?_ | refine s_for ?_
  | refine w_c ?_ | (refine w_str ?_ ?_; decide +kernel) | refine w_bin ?_ | refine w_un ?_ | refine w_chn ?_ | refine w_bV ?_ | refine w_bBl ?_ | refine w_bAnd ?_ | refine w_bOr ?_ | refine w_bNot ?_ | refine w_bYes ?_
  | refine w_vAnd ?_ | refine w_vOr ?_ | refine w_vNot ?_ | refine w_vIf ?_ | refine w_nil ?_ | refine w_cons ?_ | refine w_tup ?_ | refine w_disp ?_ | refine w_new ?_ | refine lnew ?_ | refine w_oNone ?_ | refine w_oSome ?_ | refine w_slc ?_ | refine w_lslc ?_ | refine slcT ?_ | refine slcS ?_
  | refine w_call ?_ | refine w_callL ?_ | refine w_lcallL ?_ | refine w_lcallN ?_ | refine w_isi ?_ | refine w_app ?_ | refine w_app0 ?_ | refine w_lval ?_ | refine w_cat ?_ | refine w_eqL ?_ | refine w_lm ?_ | refine w_ext ?_ | refine w_sm ?_ | refine w_sm0 ?_ | refine w_lsm ?_ | refine w_smL ?_ | refine w_dic0 ?_ | refine w_dic1 ?_ | refine w_iV ?_ | refine w_iL ?_ | refine il_none ?_ | refine il_some ?_ | refine w_rng ?_ | refine w_comp ?_ | refine w_rev ?_ | refine w_lenSet ?_ | refine w_extV ?_
  | refine o_addI ?_ | refine o_iadd ?_ | refine o_sub ?_ | refine o_neg ?_ | refine o_ltI ?_ | refine o_le ?_ | refine o_gt ?_ | refine o_ge ?_ | refine o_is ?_ | refine o_isNot ?_ | refine o_lenT ?_ | refine o_lenF ?_ | refine o_lenS ?_ | refine o_intB ?_ | refine o_intI ?_ | refine o_max ?_ | refine o_min ?_ | refine o_tupT ?_ | refine o_eqI ?_ | refine o_eqS ?_ | refine o_eqB ?_
  | refine b_is ?_ | refine i_is ?_ | refine s_is ?_ | refine i_tup ?_ | refine i_str ?_ | refine tr_bl ?_ | refine ty_bl ?_ | refine ty_str ?_ | refine ty_tup ?_ | refine ty_int ?_ | refine k_s ?_ | refine k_i ?_
  | refine Br.tt ?_ | refine Br.ff ?_ | refine Br.nf ?_ | refine Br.nt ?_ | refine f_ret ?_ | refine f_nx ?_ | refine f_body ?_)
local macro_rules | `(tactic| walk_at "sget") => `(tactic| first
  | assumption | exact get_app _ _ _ | exact trivial
  | (refine get_set ?_; walk_at "sget") | (refine get_app_lt ?_; walk_at "sget"))
local macro_rules | `(tactic| walk_at "len") => `(tactic| first
  | exact Nat.zero_le _ | exact len_le rfl
  | (have hbig := sizeLine_eq; simp only [List.length_map, List.length_cons, List.length_nil, List.length_append, List.length_take, List.length_drop, List.length_reverse, List.length_set, List.length_range]; omega))
local macro_rules | `(tactic| walk_at "off") => `(tactic| focus rfl)
local macro_rules | `(tactic| walk_at "e") => `(tactic| simp only [wipeE, reset, List.foldl_cons, List.foldl_nil, List.set_cons_succ, List.set_cons_zero])
local macro_rules | `(tactic| walk_at "kp") => `(tactic| first | assumption | exact Kp.refl _ | exact Kp.app _ _ | (refine Kp.trans ?_ (Kp.app _ _); walk_at "kp"))
local macro_rules | `(tactic| walk_at "set") => `(tactic| first | exact setR0 | exact setR1 | exact setR2 | exact setR3 | exact setR4 | exact setR5 | exact setR6 | exact setR7 | exact setR8 | exact setR9 | exact setR10 | exact setR11 | exact setR12 | (repeat first | exact SetR.zero | apply SetR.succ))
local macro_rules | `(tactic| walk_at "f") => `(tactic| fail)
local macro_rules | `(tactic| walk_at "x") => `(tactic| first
  | ((with_reducible show W _ _ _); first
    | ((with_reducible apply w_var); (focus exact rfl))
    | with_reducible first | refine w_c ?_ | refine w_cons ?_ | refine w_nil ?_ | refine w_bin ?_ | refine w_app ?_ | refine w_call ?_ | refine w_tup ?_ | refine w_bBl ?_ | refine w_new ?_ | refine w_iV ?_ | refine w_comp ?_ | refine w_iL ?_ | refine w_bV ?_ | refine w_disp ?_ | refine w_vAnd ?_ | refine w_vOr ?_ | refine w_bAnd ?_ | refine w_bOr ?_ | refine w_bNot ?_ | refine w_bYes ?_ | refine w_isi ?_ | refine w_callL ?_ | refine w_lval ?_ | refine w_lm ?_ | refine w_chn ?_ | refine w_un ?_ | refine w_oNone ?_ | refine w_oSome ?_ | refine w_slc ?_ | refine w_lslc ?_ | refine w_rng ?_ | refine w_vNot ?_ | refine w_vIf ?_ | refine w_cat ?_ | refine w_eqL ?_ | refine w_lenSet ?_ | refine w_app0 ?_ | refine w_extV ?_ | refine w_ext ?_ | refine w_lcallL ?_ | refine w_lcallN ?_ | refine w_sm ?_ | refine w_sm0 ?_ | refine w_lsm ?_ | refine w_smL ?_ | refine w_dic0 ?_ | refine w_dic1 ?_ | refine w_rev ?_ | refine f_ret ?_ | refine f_nx ?_
    | ((with_reducible refine g_keep ?_ ?_ ?_); (focus walk_at "kp"); (focus rfl))
    | (with_reducible refine w_str ?_ ?_; decide +kernel)
    | walk_at "f"
    | with_reducible refine f_body ?_)
  | ((with_reducible show WS _ _); first
    | with_reducible first | refine s_seqN ?_ | refine s_seq ?_ | refine q_nx ?_
    | ((with_reducible apply s_set); (focus walk_at "set"))
    | with_reducible first | refine s_expr ?_ | refine s_ret ?_ | refine s_if ?_ | refine s_nil ?_ | refine q_ret ?_ | refine s_unp ?_ | refine s_sub ?_ | refine s_for ?_ | refine q_cnt ?_ | refine q_brk ?_ | refine q_exc ?_ | refine s_retN ?_ | refine s_cnt ?_ | refine s_brk ?_ | refine s_pass ?_)
  | ((with_reducible show Op _ _); first
    | ((with_reducible apply t_n); (focus walk_at "set"))
    | with_reducible first
      | refine t_cons ?_ | refine t_nil ?_ | refine t_tup ?_ | refine i_tup ?_
      | refine o_lenT ?_
      | refine o_eqS ?_ | refine o_eqI ?_ | refine o_eqB ?_ | refine o_neI ?_ | refine o_neS ?_ | refine o_neB ?_ | refine o_is ?_ | refine o_isNot ?_ | refine o_isT ?_ | refine o_isNT ?_ | refine o_isF ?_ | refine o_isNF ?_
      | refine o_addI ?_ | refine o_sub ?_ | refine o_neg ?_ | refine o_ltI ?_ | refine o_le ?_ | refine o_gt ?_ | refine o_ge ?_ | refine o_iadd ?_
      | refine tr_bl ?_ | refine ty_bl ?_ | refine ty_str ?_ | refine ty_tup ?_ | refine ty_int ?_ | refine o_tupT ?_
      | refine o_lenF ?_ | refine o_lenS ?_ | refine o_intB ?_ | refine o_intI ?_ | refine o_max ?_ | refine o_min ?_ | refine i_str ?_ | refine k_s ?_ | refine k_i ?_
    | ((with_reducible apply o_idxT); (focus first | exact at0 _ _ | exact at1 _ _ _ | exact at2 _ _ _ _ | exact at3 _ _ _ _ _))
    | ((with_reducible apply i_ref); (focus walk_at "sget"))
    | ((with_reducible apply o_getL); (focus walk_at "sget"))
    | ((with_reducible apply o_lenR); (focus walk_at "sget"))
    | ((with_reducible apply o_idxR); (focus walk_at "sget"); (focus first | exact at0 _ _ | exact at1 _ _ _ | exact at2 _ _ _ _))
    | ((with_reducible apply o_tupR); (focus walk_at "sget"))
    | ((with_reducible apply o_listR); (focus walk_at "sget"))
    | ((with_reducible refine o_mod ?_ ?_); (focus omega))
    | ((with_reducible refine o_div ?_ ?_); (focus omega))
    | ((with_reducible refine o_pow ?_ ?_); (focus decide))
    | ((with_reducible refine o_app ?_ ?_); (focus walk_at "len"))
    | walk_at "f")
  | with_reducible first | refine b_is ?_ | refine i_is ?_ | refine s_is ?_ | refine Br.tt ?_ | refine Br.ff ?_ | refine Br.nf ?_ | refine Br.nt ?_ | refine lnew ?_ | refine il_none ?_ | refine il_some ?_ | refine revT ?_ | refine slcT ?_ | refine slcS ?_
  | ((with_reducible refine Br.of_tt ?_ ?_); focus (first | assumption | rfl | exact beq_self_eq_true _ | (simp only [decide_eq_true_eq]; omega)))
  | ((with_reducible refine Br.of_ff ?_ ?_); focus (first | assumption | rfl | (rw [beq_self_eq_true]; rfl) | (simp only [decide_eq_false_iff_not]; omega)))
  | ((with_reducible refine And.intro ?_ ?_); (focus first | ((with_reducible show _ ≤ sizeLine); walk_at "len") | ((with_reducible show lkOk _ _); walk_at "sget")))
  | ((with_reducible refine seek_nx ?_ ?_); (focus rfl); walk_at "off") | ((with_reducible refine seek_cnt ?_ ?_); (focus rfl); walk_at "off") | ((with_reducible refine seek_ret ?_); focus rfl))
local macro_rules | `(tactic| walk_at "b") => `(tactic| with_reducible first | refine b_is ?_ | refine Br.tt ?_ | refine Br.ff ?_ | refine Br.nf ?_ | refine Br.nt ?_ | refine tr_bl ?_)
local macro_rules | `(tactic| walk_at "y") => `(tactic| (fail_if_success (with_reducible refine s_if ?_)); walk_at "x")
local macro_rules | `(tactic| walk_at "f") => `(tactic| with_reducible first | refine w_iEn ?_ | refine w_iZp ?_ | refine zs_two ?_ | refine en_tup ?_ | refine en_frl ?_ | refine z_tup ?_ | refine i_frl ?_ | refine w_revT ?_)
/-! Fw105: what is told: a value, or a wrong. -/
section
abbrev Told := Except Str PV
inductive OffR : Env' → Nat → Env' → Prop
  | zero {a : Option PV} {ρ : Env'} : OffR (a :: ρ) 0 (none :: ρ)
  | succ {a : Option PV} {ρ ρ' : Env'} {i : Nat} (h : OffR ρ i ρ') : OffR (a :: ρ) (i + 1) (a :: ρ')
theorem OffR.eq {ρ ρ' : Env'} {i : Nat} (h : OffR ρ i ρ') : ρ.set i none = ρ' := by
  induction h with
  | zero => rfl
  | succ h ih => simp only [List.set_cons_succ, ih]
section
variable {Q : SR → Prop} {ρ ρ' : Env'} {S : Store} {b : TSt} {i : Nat} {t : Str → Option Bool} {f : PV → Env'}
theorem q_off (h : OffR ρ i ρ') (q : WS (b ρ' S) Q) : WS (((SR.nx ρ S).off i).seq b) Q := by
  show WS (b (ρ.set i none) S) Q
  rw [h.eq]; exact q
theorem q_offR {v : PV} (q : Q (.ret v S)) : WS (((SR.ret v S).off i).seq b) Q := q
end
end
end Ev
namespace Ev
open PySem PySem.Spec PyProof.Rows L2 SX
local macro_rules | `(tactic| walk_at "w") => `(tactic| first
  | (with_reducible apply s_set; focus (repeat first | exact SetR.zero | apply SetR.succ))
  | (with_reducible apply w_get; focus (repeat first | exact GetR.zero | apply GetR.succ))
  | with_reducible first
  | refine s_seqN ?_ | refine s_seq ?_ | refine q_nx ?_ | refine q_ret ?_ | refine q_brk ?_ | refine q_cnt ?_ | refine q_exc ?_
  | refine s_nil ?_ | refine s_pass ?_ | refine s_brk ?_ | refine s_cnt ?_ | refine s_expr ?_ | refine s_ret ?_ | refine s_retN ?_ | refine s_if ?_ | refine s_unp ?_ | refine s_sub ?_ | refine s_for ?_
  | refine w_c ?_ | (refine w_str ?_ ?_; decide +kernel) | refine w_bin ?_ | refine w_un ?_ | refine w_chn ?_ | refine w_bV ?_ | refine w_bBl ?_ | refine w_bAnd ?_ | refine w_bOr ?_ | refine w_bNot ?_ | refine w_bYes ?_
  | refine w_vAnd ?_ | refine w_vOr ?_ | refine w_vNot ?_ | refine w_vIf ?_ | refine w_nil ?_ | refine w_cons ?_ | refine w_tup ?_ | refine w_disp ?_ | refine w_new ?_ | refine lnew ?_ | refine w_oNone ?_ | refine w_oSome ?_ | refine w_slc ?_ | refine w_lslc ?_ | refine slcT ?_ | refine slcS ?_
  | refine w_call ?_ | refine w_callL ?_ | refine w_lcallL ?_ | refine w_lcallN ?_ | refine w_isi ?_ | refine w_app ?_ | refine w_app0 ?_ | refine w_lval ?_ | refine w_cat ?_ | refine w_eqL ?_ | refine w_lm ?_ | refine w_ext ?_ | refine w_sm ?_ | refine w_sm0 ?_ | refine w_lsm ?_ | refine w_smL ?_ | refine w_dic0 ?_ | refine w_dic1 ?_ | refine w_iV ?_ | refine w_iL ?_ | refine il_none ?_ | refine il_some ?_ | refine w_rng ?_ | refine w_comp ?_ | refine w_rev ?_ | refine w_lenSet ?_ | refine w_extV ?_
  | refine o_addI ?_ | refine o_iadd ?_ | refine o_sub ?_ | refine o_neg ?_ | refine o_ltI ?_ | refine o_le ?_ | refine o_gt ?_ | refine o_ge ?_ | refine o_is ?_ | refine o_isNot ?_ | refine o_lenT ?_ | refine o_lenF ?_ | refine o_lenS ?_ | refine o_intB ?_ | refine o_intI ?_ | refine o_max ?_ | refine o_min ?_ | refine o_tupT ?_ | refine o_eqI ?_ | refine o_eqS ?_ | refine o_eqB ?_
  | refine b_is ?_ | refine i_is ?_ | refine s_is ?_ | refine i_tup ?_ | refine i_str ?_ | refine tr_bl ?_ | refine ty_bl ?_ | refine ty_str ?_ | refine ty_tup ?_ | refine ty_int ?_ | refine k_s ?_ | refine k_i ?_
  | refine Br.tt ?_ | refine Br.ff ?_ | refine Br.nf ?_ | refine Br.nt ?_ | refine f_ret ?_ | refine f_nx ?_ | refine f_body ?_)
local macro_rules | `(tactic| walk_at "sget") => `(tactic| first
  | assumption | exact get_app _ _ _ | exact trivial
  | (refine get_set ?_; walk_at "sget") | (refine get_app_lt ?_; walk_at "sget"))
local macro_rules | `(tactic| walk_at "len") => `(tactic| first
  | exact Nat.zero_le _ | exact len_le rfl
  | (have hbig := sizeLine_eq; simp only [List.length_map, List.length_cons, List.length_nil, List.length_append, List.length_take, List.length_drop, List.length_reverse, List.length_set, List.length_range]; omega))
local macro_rules | `(tactic| walk_at "off") => `(tactic| focus rfl)
local macro_rules | `(tactic| walk_at "e") => `(tactic| simp only [wipeE, reset, List.foldl_cons, List.foldl_nil, List.set_cons_succ, List.set_cons_zero])
local macro_rules | `(tactic| walk_at "kp") => `(tactic| first | assumption | exact Kp.refl _ | exact Kp.app _ _ | (refine Kp.trans ?_ (Kp.app _ _); walk_at "kp"))
local macro_rules | `(tactic| walk_at "set") => `(tactic| first | exact setR0 | exact setR1 | exact setR2 | exact setR3 | exact setR4 | exact setR5 | exact setR6 | exact setR7 | exact setR8 | exact setR9 | exact setR10 | exact setR11 | exact setR12 | (repeat first | exact SetR.zero | apply SetR.succ))
local macro_rules | `(tactic| walk_at "f") => `(tactic| fail)
local macro_rules | `(tactic| walk_at "x") => `(tactic| first
  | ((with_reducible show W _ _ _); first
    | ((with_reducible apply w_var); (focus exact rfl))
    | with_reducible first | refine w_c ?_ | refine w_cons ?_ | refine w_nil ?_ | refine w_bin ?_ | refine w_app ?_ | refine w_call ?_ | refine w_tup ?_ | refine w_bBl ?_ | refine w_new ?_ | refine w_iV ?_ | refine w_comp ?_ | refine w_iL ?_ | refine w_bV ?_ | refine w_disp ?_ | refine w_vAnd ?_ | refine w_vOr ?_ | refine w_bAnd ?_ | refine w_bOr ?_ | refine w_bNot ?_ | refine w_bYes ?_ | refine w_isi ?_ | refine w_callL ?_ | refine w_lval ?_ | refine w_lm ?_ | refine w_chn ?_ | refine w_un ?_ | refine w_oNone ?_ | refine w_oSome ?_ | refine w_slc ?_ | refine w_lslc ?_ | refine w_rng ?_ | refine w_vNot ?_ | refine w_vIf ?_ | refine w_cat ?_ | refine w_eqL ?_ | refine w_lenSet ?_ | refine w_app0 ?_ | refine w_extV ?_ | refine w_ext ?_ | refine w_lcallL ?_ | refine w_lcallN ?_ | refine w_sm ?_ | refine w_sm0 ?_ | refine w_lsm ?_ | refine w_smL ?_ | refine w_dic0 ?_ | refine w_dic1 ?_ | refine w_rev ?_ | refine f_ret ?_ | refine f_nx ?_
    | ((with_reducible refine g_keep ?_ ?_ ?_); (focus walk_at "kp"); (focus rfl))
    | (with_reducible refine w_str ?_ ?_; decide +kernel)
    | walk_at "f"
    | with_reducible refine f_body ?_)
  | ((with_reducible show WS _ _); first
    | with_reducible first | refine s_seqN ?_ | refine s_seq ?_ | refine q_nx ?_
    | ((with_reducible apply s_set); (focus walk_at "set"))
    | with_reducible first | refine s_expr ?_ | refine s_ret ?_ | refine s_if ?_ | refine s_nil ?_ | refine q_ret ?_ | refine s_unp ?_ | refine s_sub ?_ | refine s_for ?_ | refine q_cnt ?_ | refine q_brk ?_ | refine q_exc ?_ | refine s_retN ?_ | refine s_cnt ?_ | refine s_brk ?_ | refine s_pass ?_)
  | ((with_reducible show Op _ _); first
    | ((with_reducible apply t_n); (focus walk_at "set"))
    | with_reducible first
      | refine t_cons ?_ | refine t_nil ?_ | refine t_tup ?_ | refine i_tup ?_
      | refine o_lenT ?_
      | refine o_eqS ?_ | refine o_eqI ?_ | refine o_eqB ?_ | refine o_neI ?_ | refine o_neS ?_ | refine o_neB ?_ | refine o_is ?_ | refine o_isNot ?_ | refine o_isT ?_ | refine o_isNT ?_ | refine o_isF ?_ | refine o_isNF ?_
      | refine o_addI ?_ | refine o_sub ?_ | refine o_neg ?_ | refine o_ltI ?_ | refine o_le ?_ | refine o_gt ?_ | refine o_ge ?_ | refine o_iadd ?_
      | refine tr_bl ?_ | refine ty_bl ?_ | refine ty_str ?_ | refine ty_tup ?_ | refine ty_int ?_ | refine o_tupT ?_
      | refine o_lenF ?_ | refine o_lenS ?_ | refine o_intB ?_ | refine o_intI ?_ | refine o_max ?_ | refine o_min ?_ | refine i_str ?_ | refine k_s ?_ | refine k_i ?_
    | ((with_reducible apply o_idxT); (focus first | exact at0 _ _ | exact at1 _ _ _ | exact at2 _ _ _ _ | exact at3 _ _ _ _ _))
    | ((with_reducible apply i_ref); (focus walk_at "sget"))
    | ((with_reducible apply o_getL); (focus walk_at "sget"))
    | ((with_reducible apply o_lenR); (focus walk_at "sget"))
    | ((with_reducible apply o_idxR); (focus walk_at "sget"); (focus first | exact at0 _ _ | exact at1 _ _ _ | exact at2 _ _ _ _))
    | ((with_reducible apply o_tupR); (focus walk_at "sget"))
    | ((with_reducible apply o_listR); (focus walk_at "sget"))
    | ((with_reducible refine o_mod ?_ ?_); (focus omega))
    | ((with_reducible refine o_div ?_ ?_); (focus omega))
    | ((with_reducible refine o_pow ?_ ?_); (focus decide))
    | ((with_reducible refine o_app ?_ ?_); (focus walk_at "len"))
    | walk_at "f")
  | with_reducible first | refine b_is ?_ | refine i_is ?_ | refine s_is ?_ | refine Br.tt ?_ | refine Br.ff ?_ | refine Br.nf ?_ | refine Br.nt ?_ | refine lnew ?_ | refine il_none ?_ | refine il_some ?_ | refine revT ?_ | refine slcT ?_ | refine slcS ?_
  | ((with_reducible refine Br.of_tt ?_ ?_); focus (first | assumption | rfl | exact beq_self_eq_true _ | (simp only [decide_eq_true_eq]; omega)))
  | ((with_reducible refine Br.of_ff ?_ ?_); focus (first | assumption | rfl | (rw [beq_self_eq_true]; rfl) | (simp only [decide_eq_false_iff_not]; omega)))
  | ((with_reducible refine And.intro ?_ ?_); (focus first | ((with_reducible show _ ≤ sizeLine); walk_at "len") | ((with_reducible show lkOk _ _); walk_at "sget")))
  | ((with_reducible refine seek_nx ?_ ?_); (focus rfl); walk_at "off") | ((with_reducible refine seek_cnt ?_ ?_); (focus rfl); walk_at "off") | ((with_reducible refine seek_ret ?_); focus rfl))
local macro_rules | `(tactic| walk_at "b") => `(tactic| with_reducible first | refine b_is ?_ | refine Br.tt ?_ | refine Br.ff ?_ | refine Br.nf ?_ | refine Br.nt ?_ | refine tr_bl ?_)
local macro_rules | `(tactic| walk_at "y") => `(tactic| (fail_if_success (with_reducible refine s_if ?_)); walk_at "x")
local macro_rules | `(tactic| walk_at "f") => `(tactic| with_reducible first | refine w_iEn ?_ | refine w_iZp ?_ | refine zs_two ?_ | refine en_tup ?_ | refine en_frl ?_ | refine z_tup ?_ | refine i_frl ?_ | refine w_revT ?_)
local macro_rules | `(tactic| walk_at "x") => `(tactic| first
  | with_reducible first | refine s_raise1 ?_ | refine s_raise0 ?_ | refine s_try ?_ | refine tq_nx ?_ | refine tq_ret ?_ | refine f_exc ?_ | refine q_offR ?_
  | ((with_reducible refine q_off ?_ ?_); (focus (repeat first | exact OffR.zero | apply OffR.succ))))
/-! Fw106 -/
/-! Fw107 -/
section
local macro_rules | `(tactic| walk_at "f") => `(tactic| (with_reducible first | refine w_lcallL ?_ | refine w_lcallN ?_))
theorem SdOk.sub {bk : List Kind} {pool pool2 : List Str} {hs : List Hold} {ls : List Look} (ok : SdOk bk pool hs ls) (h : ∀ z ∈ pool, z ∈ pool2) : SdOk bk pool2 hs ls :=
  ⟨fun a ha => ⟨⟨(ok.hold a ha).1.1, (ok.hold a ha).1.2.1, fun z hz => h z ((ok.hold a ha).1.2.2 z hz)⟩, (ok.hold a ha).2⟩, ok.apart, ok.srt, fun l hl => ⟨h _ (ok.look l hl).1, (ok.look l hl).2⟩, ok.lnd, ok.lapart, ok.lsrt⟩
end
/-! Fw108: list.insert, max of a list, list(range). -/
/-! Fw109 -/
section
local macro_rules | `(tactic| walk_at "f") => `(tactic| (with_reducible first | refine w_lcallL ?_ | refine w_lcallN ?_))
/-! ### a loop that raises at the first thing that is so -/
/-! ### what is held beneath a path, who looks there -/
end
/-! Fw110: names that fit, names that are bare. -/
/-! Fw111: bare; what is due; what is told. -/
/-! Fw112 -/
/-! Fw113 -/
/-! Fw114 -/
section
local macro_rules | `(tactic| walk_at "f") => `(tactic| (with_reducible first | refine w_lcallL ?_ | refine w_lcallN ?_))
/-! ### kinds of a book -/
end
/-! Fw115: things left. -/
section
local macro_rules | `(tactic| walk_at "f") => `(tactic| (with_reducible first | refine w_lcallL ?_ | refine w_lcallN ?_))
end
/-! Fw116 -/
section
local macro_rules | `(tactic| walk_at "f") => `(tactic| (with_reducible first | refine w_lcallL ?_ | refine w_lcallN ?_))
end
/-! Fw117 -/
/-! Fw118 -/
/-! Fw119 -/
section
local macro_rules | `(tactic| walk_at "f") => `(tactic| (with_reducible first | refine w_lcallL ?_ | refine w_lcallN ?_))
/-! ### things moved -/
def fMove (hs : List Hold) (ls : List Look) (p o : List Str) : Told := if (fUnder hs p).isEmpty = true then .error "none" else if fSn ls p = true then .error "seen" else if (!(roomS (fAway hs p) ls o) || fLong (fUnder hs p) p o) = true then .error "room" else
  .ok (.tup [.tup (sortO ((fAway hs p ++ fLed (fUnder hs p) p o).map eHo)), .tup (ls.map eLo)])
end
/-! Fw120 -/
section
local macro_rules | `(tactic| walk_at "f") => `(tactic| (with_reducible first | refine w_lcallL ?_ | refine w_lcallN ?_))
/-! ### moved, and moved back -/
theorem Moved.eq {bk : List Kind} {pool : List Str} {hs hs' : List Hold} {ls : List Look} {p o : List Str} (m : Moved bk pool hs ls p o hs') : fMove hs ls p o = .ok (eSd hs' ls) := by
  unfold fMove
  rw [m.ne, if_neg (by decide), m.sn, if_neg (by decide), m.rm, m.sh, if_neg (by decide), m.st]
  rfl
end
/-! Fw121 -/
/-! Fw122 -/
/-! Fw123 -/
section
local macro_rules | `(tactic| walk_at "f") => `(tactic| (with_reducible first | refine w_lcallL ?_ | refine w_lcallN ?_))
section
variable {Q : PV → Store → Prop} {E : PX → Store → Prop} {S0 : Store}
end
end
/-! Fw124: handed and handed back, in plain lists. -/
section
theorem NeH.sub {hs : List Hold} (h : NeH hs) (p : Hold → Bool) : NeH (hs.filter p) := fun a ha => h a (List.mem_filter.mp ha).1
end
/-! Fw125 -/
/-! Fw126 -/
/-! Fw127 -/
end Ev
namespace Ev
open PySem PySem.Spec PyProof.Rows L2
/-! Fw128: sets of texts that can be walked. -/
section
section
variable {prog : Program} {w : World} {A : Around} {E : Value → Shared → Prop} {s : Shared} {a : Addr} {l : List Str}
/-- what is laid, and laid anew where the table is full -/
theorem oset_lay {g : Bool → Sem Unit} (hg : ∀ (b : Bool) (u : Shared) (T : Unit → Shared → Prop), T () u → wpAny (model prog w) A (g b) T E u) {o : Obj} {es xs : Array (Int × Value)} {ep : Nat} {tb tc : SetTable}
    (ho : s.heap.get? a = some o) (ex : o.ExactSet) (dt : o.data = .set es ep tb) (good : ∀ e ∈ xs.toList, ∃ k t, e.2 = Value.str k t ∧ e.1 = (PySem.strKind prog w).hash k) (pm : (xs.toList.map txt).Perm l) (few : xs.size < scanBound)
    (fit : tc.fits xs.size = true) (ris : Ris tc.place.toList) (led : w.params.followText "set-order" = true ∨ tc.led = true) {dum : Bool} {R : Option Bool → Shared → Prop} (goal : ∀ h', Heap.SameBut a s.heap h' → OSet prog w h' a l → R (some true) { s with heap := h' }) :
    wpAny (model prog w) A (do storeSet a xs tc; if (!dum && tc.tooFull) = true then do { g (relayAll tc xs (SetTable.grown xs.size)).2.2; storeSet a (relayAll tc xs (SetTable.grown xs.size)).1 (relayAll tc xs (SetTable.grown xs.size)).2.1; pure (some true) } else pure (some true)) R E s := by
  have at1 := store_at (es' := xs) (t' := tc) ho dt
  have sb := Heap.SameBut.update s.heap a (Obj.putSet xs tc)
  refine wpAny_bind (wpAny_storeSet_of ho dt ?_ (fits_of_scanBound few)); split
  · have p2 := relayAll_perm tc xs (SetTable.grown xs.size)
    have f2 := relayAll_fits tc xs (SetTable.grown xs.size)
    have r2 := relayAll_ris tc xs (SetTable.grown xs.size)
    have l2 := relayAll_led tc xs (SetTable.grown xs.size)
    revert p2 f2 r2 l2
    generalize relayAll tc xs (SetTable.grown xs.size) = Z
    rcases Z with ⟨ys, td, gw⟩
    intro p2 f2 r2 l2
    dsimp only at p2 f2 r2 l2 ⊢
    have sz : ys.size = xs.size := by have := p2.length_eq; rwa [Array.length_toList, Array.length_toList] at this
    refine wpAny_bind (hg _ _ _ (wpAny_bind (wpAny_storeSet_of at1 rfl ?_ (fits_of_scanBound (sz ▸ few)))))
    refine wpAny_pure (goal _ (sb.trans (Heap.SameBut.update _ a _)) ⟨_, ys, _, td, store_at at1 rfl, ex, rfl, fun e he => good e (p2.mem_iff.mp he), (p2.map txt).trans pm, sz ▸ few, f2, r2, ?_⟩)
    rcases led with z | z
    · exact .inl z
    · exact .inr (l2.trans z)
  · exact wpAny_pure (goal _ sb ⟨_, xs, _, tc, at1, ex, rfl, good, pm, few, fit, ris, led⟩)
theorem txt_is {k : Str} {e : Int × Value} (g : ∃ k t, e.2 = Value.str k t ∧ e.1 = (PySem.strKind prog w).hash k) : (PySem.strKind prog w).is k e.2 = true ↔ txt e = k := by
  obtain ⟨j, t, e1, _⟩ := g
  have hj : (PySem.strKind prog w).is j e.2 = true := by rw [e1]; exact strKind_is _ _ _ _
  rw [KeyKind.is_eq_decide hj k, show txt e = j by unfold txt; rw [e1], decide_eq_true_eq]
  exact eq_comm
theorem oset_add {k : Str} {tk : Tok} {T : Bool → Shared → Prop} (D : OSet prog w s.heap a l) (room : l.length + 1 < scanBound) (goal : ∀ h' b, Heap.SameBut a s.heap h' → OSet prog w h' a (oneMore l k) → T b { s with heap := h' }) :
    wpAny (model prog w) A (setAddHashed a (.str k tk) ((PySem.strKind prog w).hash k)) T E s := by
  obtain ⟨o, es, ep, tb, ho, ex, dt, good, pm, few, fit, ris, led⟩ := D
  have isk : (PySem.strKind prog w).is k (.str k tk) = true := strKind_is _ _ _ _
  have scn : (Value.str k tk).scannable = true := rfl
  have el : ElemsOf (PySem.strKind prog w) es.toList := fun e he => by
    obtain ⟨j, t, e1, e2⟩ := good e he
    exact ⟨⟨j, by rw [e1]; exact strKind_is _ _ _ _, e2⟩, by rw [e1]; rfl⟩
  have there : (∃ e ∈ es.toList, (PySem.strKind prog w).is k e.2 = true) ↔ k ∈ l := by
    rw [← pm.mem_iff, List.mem_map]
    exact ⟨fun ⟨e, he, q⟩ => ⟨e, he, (txt_is (good e he)).mp q⟩, fun ⟨e, he, q⟩ => ⟨e, he, (txt_is (good e he)).mpr q⟩⟩
  unfold setAddHashed setAddHashedIn
  refine wpAny_holding (wpAny_bind (wpAny_setState_of ho dt fit ?_))
  dsimp only
  rw [byScan_of scn few el]; simp only [↓reduceIte]
  unfold setAddByScan
  refine wpAny_bind (wpAny_bind (wpAny_rule (wpAny_bind (wpAny_setScan_of isk ho dt fit el ?_))))
  cases fi : List.findIdx? (fun e => (PySem.strKind prog w).is k e.2) es.toList with
  | some j =>
    dsimp only
    obtain ⟨hj, pj, _⟩ := List.findIdx?_eq_some_iff_getElem.mp fi
    have hk : k ∈ l := there.mp ⟨_, List.getElem_mem hj, pj⟩
    have e1 : oneMore l k = l := if_pos hk
    exact wpAny_pure (wpAny_pure (goal s.heap _ (Heap.SameBut.refl a s.heap) (by rw [e1]; exact ⟨o, es, ep, tb, ho, ex, dt, good, pm, few, fit, ris, led⟩)))
  | none =>
    dsimp only
    have hk : k ∉ l := fun z => by
      obtain ⟨e, he, q⟩ := there.mpr z
      have c := List.findIdx?_eq_none_iff.mp fi e he
      rw [q] at c; cases c
    have e1 : oneMore l k = l ++ [k] := if_neg hk
    have way : ∀ (b : Bool) {u : Shared} {V : Unit → Shared → Prop}, V () u → wpAny (model prog w) A (match b with | true => rule "set.scan.the-table-gave-way" | false => pure ()) V E u := fun b u V q => by
      cases b
      · exact wpAny_pure q
      · exact wpAny_rule q
    have p1 := layNew_perm tb es ((PySem.strKind prog w).hash k) (.str k tk)
    have f1 := layNew_fits tb es ((PySem.strKind prog w).hash k) (.str k tk)
    have r1 := layNew_ris tb es ((PySem.strKind prog w).hash k) (.str k tk) ris
    have l1 := layNew_led tb es ((PySem.strKind prog w).hash k) (.str k tk)
    revert p1 f1 r1 l1
    generalize layNew tb es ((PySem.strKind prog w).hash k) (.str k tk) = Z
    rcases Z with ⟨xs, tc, dum, gw⟩
    intro p1 f1 r1 l1
    dsimp only at p1 f1 r1 l1 ⊢
    rw [Array.toList_push] at p1
    have g1 : ∀ e ∈ xs.toList, ∃ j t, e.2 = Value.str j t ∧ e.1 = (PySem.strKind prog w).hash j := fun e he => by
      rcases List.mem_append.mp (p1.mem_iff.mp he) with z | z
      · exact good e z
      · rw [List.mem_singleton.mp z]; exact ⟨k, tk, rfl, rfl⟩
    have pm1 : (xs.toList.map txt).Perm (oneMore l k) := by
      rw [e1]
      refine (p1.map txt).trans ?_
      rw [List.map_append]
      exact pm.append_right _
    have few1 : xs.size < scanBound := by
      have h1 := pm1.length_eq
      rw [List.length_map, Array.length_toList, e1, List.length_append, List.length_singleton] at h1
      omega
    have led1 : w.params.followText "set-order" = true ∨ tc.led = true := by
      rcases led with z | z
      · exact .inl z
      · exact .inr (l1.trans z)
    have fin : ∀ h', Heap.SameBut a s.heap h' → OSet prog w h' a (oneMore l k) → T true { s with heap := h' } := fun h' sb r => goal h' _ sb r
    refine wpAny_bind (way _ ?_); split
    · refine wpAny_bind ?_; rw [hashByValue_scannable 8 scn]
      refine wpAny_pure (oset_lay (fun b u V q => ?_) ho ex dt g1 pm1 few1 ?_ ?_ ?_ fun h' sb r => ?_)
      · cases b
        · exact wpAny_pure q
        · exact wpAny_rule q
      · first | exact f1 | (split <;> first | exact f1 | exact SetTable.fits_plain_off f1)
      · first | exact r1 | (split <;> exact r1)
      · first | exact led1 | (split <;> exact led1)
      · dsimp only; exact wpAny_pure (fin h' sb r)
    · refine wpAny_bind (wpAny_pure ?_); simp only [↓reduceIte]
      refine oset_lay (fun b u V q => ?_) ho ex dt g1 pm1 few1 f1 r1 led1 fun h' sb r => ?_
      · cases b
        · exact wpAny_pure q
        · exact wpAny_rule q
      · dsimp only; exact wpAny_pure (fin h' sb r)
end
end
/-! Fw129: set(xs) of texts, such that it can be walked; sorted(set(xs)). -/
section
section
variable {prog : Program} {w : World} {A : Around} {R : Result → Shared → Prop} {I : Addr} {fp wr : List Addr} {G : Array GenState → Array GenState → Prop} {n : Nat} {P : Nat → Value → Prop} {St : Nat → Shared → Prop}
/-- the turns of the filling -/
theorem fill_O (wk : WalksS prog w A.in1 I fp wr G n P St) (D : Addr) (hD : D ∉ fp) (xs : List Str) (hn : xs.length = n) (few : n + 1 < scanBound) (val : ∀ i v, P i v → ∃ t, v = .str (xs.getD i Str.empty) t) (left : Nat) :
    ∀ (i : Nat) (s : Shared), i + left = n → St i s → OSet prog w s.heap D (unlikes (xs.take i)) →
      (∀ s', PySem.Moved (D :: wr) G s s' → OSet prog w s'.heap D (unlikes xs) → R (.ok (.ret .none)) s') → codeAny (model prog w) A (.builtin "set.update.loop" ⟨[.ref D, .ref I], []⟩) R s := by
  have wide : ∀ b ∈ wr, b ∈ D :: wr := fun b h => List.mem_cons_of_mem _ h
  have apart : D ∉ wr := fun h => hD (wk.sub _ h)
  induction left with
  | zero =>
    intro i s hi st ds goal
    obtain rfl : i = n := hi
    refine codeAny_builtin PyProof.Rows.F.entry_set_update_loop ?_; rw [Around.under_plainId PyProof.Rows.F.plain_set_update_loop _]
    refine wpAny_bind (m := pyNext (.ref I)) (wk.done s _ _ st fun s' mv => ?_)
    rw [List.take_of_length_le (by omega)] at ds
    have last := goal s' (mv.mono wide) (ds.keep fun o => mv.heap D o apart)
    show wpAny _ A.in1 (ret Value.none) _ _ s'; exact wpAny_pure last
  | succ left ih =>
    intro i s hi st ds goal
    have lt : i < n := by omega
    have sz : i < xs.length := by omega
    refine codeAny_builtin PyProof.Rows.F.entry_set_update_loop ?_; rw [Around.under_plainId PyProof.Rows.F.plain_set_update_loop _]
    refine wpAny_bind (m := pyNext (.ref I)) (wk.item i s _ _ lt st fun v s' pv st' mv => ?_)
    obtain ⟨t, rfl⟩ := val i v pv
    have ex : xs.getD i Str.empty = xs[i] := by simp [List.getD_eq_getElem?_getD, sz]
    rw [ex]
    have ds' : OSet prog w s'.heap D (unlikes (xs.take i)) := ds.keep fun o => mv.heap D o apart
    refine wpAny_bind (m := holding [Value.str xs[i] t] (setAdd D (.str xs[i] t))) (wpAny_holding ?_)
    unfold setAdd
    refine wpAny_holding (wpAny_bind ((PySem.strKind prog w).pyHash (k := xs[i]) (strKind_is _ _ _ _) ?_))
    have room : (unlikes (xs.take i)).length + 1 < scanBound := by have := unlikes_le xs i; omega
    refine oset_add (s := { s' with toks := s'.toks + 1 }) ds' room fun h' bb one ds2 => ?_
    have nx : OSet prog w h' D (unlikes (xs.take (i + 1))) := by
      rw [List.take_succ_eq_append_getElem sz, unlikes_snoc]
      exact ds2
    have kept : ∀ b ∈ fp, ∀ o, s'.heap.get? b = some o → h'.get? b = some o := fun b hb o e => (one.2 b fun z => hD (z ▸ hb)).trans e
    refine wpAny_pure ⟨plainId_quiet PyProof.Rows.F.plain_set_update_loop _, ih (i + 1) _ (by omega) (wk.frame _ s' _ _ st' (Nat.le_succ _) kept) nx fun s'' mv2 ds3 => goal s'' ?_ ds3⟩
    refine PySem.Moved.trans wk.gtrans ((mv.mono wide).then_heap (Nat.le_succ _) fun b o hb e => ?_) mv2
    exact (one.2 b fun z => hb (by rw [z]; exact List.mem_cons_self)).trans e
end
section
variable {prog : Program} {w : World} {A : Around} {E : Value → Shared → Prop} {s : Shared}
/-- a new set, before it is filled: the table is led or the slots are followed -/
theorem set_new_led (a : Value) {T : Value → Shared → Prop} (goal : T (.ref s.heap.objs.size) { s with heap := s.heap.push (bareSet (!w.params.followText "set-order")) }) :
    codeAny (model prog w) A (.call (.builtin "set.__new__") ⟨[.type "set", a], []⟩) (wants T E) s := by
  refine codeAny_of_tree ?_; show wpAny _ A.in1 (do { checkBuiltinCall "set.__new__" ⟨[.type "set", a], []⟩; again (.builtin "set.__new__" ⟨[.type "set", a], []⟩) }) _ _ s
  refine wpAny_bind (wpAny_of_eq (F.newCall_set_1 a) (wpAny_pure ⟨plainId_quiet F.plain_set_new _, codeAny_builtin F.entry_set_new ?_⟩))
  rw [Around.under_plainId F.plain_set_new _]; unfold Builtin.«set.__new__» Builtin.Frozenset.newClass
  have below := PySem.F.called_set.sub
  rcases s with ⟨hp, g, d, tk, os⟩; dsimp only
  wp_walk
  refine wpAny_askSetting (wpAny_pure ?_); dsimp only; simp only [newObj]
  exact wpAny_bind (wpAny_alloc (wpAny_pure (wpAny_pure goal)))
end
section
variable {prog : Program} {w : World} {xs : List Str}
theorem led_or (b : Bool) : b = true ∨ (!b) = true := by cases b <;> simp
theorem oset_bare {h : Heap} {a : Addr} {led : Bool} (e : h.get? a = some (bareSet led)) (hl : w.params.followText "set-order" = true ∨ led = true) : OSet prog w h a (unlikes (List.take 0 xs)) := by
  refine ⟨_, #[], 0, .fresh 0 0 led, e, ⟨rfl, rfl, rfl⟩, rfl, fun e he => by simp at he, by simp [unlikes], by unfold scanBound; show 0 < _; omega, rfl, ?_, hl⟩
  show Ris _
  unfold Ris
  simp [SetTable.fresh]
end
section
variable {prog : Program} {w : World} {A : Around} {E : Value → Shared → Prop} {s : Shared}
set_option maxHeartbeats 3200000 in
/-- set(xs), xs a list of texts -/
theorem set_of_listO {l : Addr} {its : Array Value} {xs : List Str} {Q : Value → Shared → Prop} (calm : A.handled = none) (isl : s.heap.IsList l its) (are : StrsAre its.toList xs) (few : its.size + 1 < scanBound)
    (goal : ∀ (h' : Heap) (tk : Nat), OSet prog w h' s.heap.objs.size (unlikes xs) → (∀ b o, b < s.heap.objs.size → s.heap.get? b = some o → h'.get? b = some o) → Q (.ref s.heap.objs.size) { s with heap := h', toks := tk }) :
    wpAny (model prog w) A (call (.type "set") [.ref l]) Q E s := by
  obtain ⟨mc, mt, mro⟩ := PySem.F.called_set.mro
  have made := PySem.F.called_set.made
  have below := PySem.F.called_set.sub
  have noType := PySem.F.called_set.notType
  have creates := PySem.F.called_set.canCreate
  have checked := PySem.F.typeCall_set_1 (.ref l)
  refine wpAny_call (codeAny_of_tree ?_); show wpAny _ _ (callAny (.type "set") _) _ _ _
  refine wpAny_pure ⟨Code.quiet_builtin _ (by decide +kernel), ?_⟩; refine codeAny_builtin PySem.F.entry_type_call ?_
  rw [Around.under_plain (weight_type_call_type "set" [.ref l] []) rfl]
  repeat (any_goals (first | assumption | wp_step))
  refine codeAny_mono (set_new_led (.ref l) (E := E) (T := fun r t => ∃ led, (w.params.followText "set-order" = true ∨ led = true) ∧ r = .ref s.heap.objs.size ∧ t = { s with heap := s.heap.push (bareSet led) }) ⟨_, led_or _, rfl, rfl⟩) fun r t hr => ?_
  rcases r with e | fl
  · exact hr
  cases fl with
  | ret obj =>
    obtain ⟨led, hled, rfl, rfl⟩ := hr
    have isNew : (s.heap.push (bareSet led)).get? s.heap.objs.size = some (bareSet led) := Heap.get?_push_size _ rfl
    have isSet : Shared.TypeIs { s with heap := s.heap.push (bareSet led) } (.ref s.heap.objs.size) "set" := ⟨_, isNew, rfl⟩
    have looks := PySem.F.called_set.init.lookup
    have binds := PySem.F.called_set.init.bind (.ref s.heap.objs.size)
    repeat (any_goals (first | assumption | wp_step))
    refine codeAny_mono (codeAny_call_builtin (R := wants (fun r t => r = .none ∧ ∃ h' tk, t = { s with heap := h', toks := tk } ∧ OSet prog w h' s.heap.objs.size (unlikes xs) ∧ (∀ b o, b < s.heap.objs.size → s.heap.get? b = some o → h'.get? b = some o)) E) PySem.F.called_set.init.plain PySem.F.entry_set_init (check_set_init_1 isSet ?_)) fun r2 t2 hr2 => ?_
    · obtain ⟨⟨oc, od, dat, sl⟩, ho, hc, cnt, hd⟩ := isl
      simp only at hc hd
      subst hc hd
      have ho' : (s.heap.push (bareSet led)).get? l = some { cls := .type "list", dict := od, data := .seq its cnt, slots := sl } := Heap.get?_push_of_some _ ho
      have n1 := PySem.F.sub_list_set
      have n2 := PySem.F.sub_list_frozenset
      have n3 : (Value.type "list" == Value.type "dict") = false := by decide
      have isl' : (s.heap.push (bareSet led)).IsList l its := ⟨_, ho', rfl, cnt, rfl⟩
      unfold Builtin.«set.__init__» noKeywords Builtin.Frozenset.updateFrom
      generalize hit : pyIter = it
      wp_walk
      subst hit
      refine wpAny_pyIter_list isl' (wpAny_bind (wpAny_runValue ?_))
      have lt : l < s.heap.objs.size := Heap.lt_size ho
      have sz1 : (s.heap.push (bareSet led)).objs.size = s.heap.objs.size + 1 := Heap.size_push ..
      have far : l ≠ (s.heap.push (bareSet led)).objs.size := sz1 ▸ Nat.ne_of_lt (Nat.lt_succ_of_lt lt)
      have len : xs.length = its.size := by rw [← StrsAre.len_eq are, Array.length_toList]
      refine fill_O ((Walks.list (show A.in1.in1.in1.handled = none by simp [calm]) _ l far its).toS) s.heap.objs.size (fun hm => (List.mem_cons.mp hm).elim (fun z => Nat.ne_of_lt (Nat.lt_succ_self _) (z.trans sz1)) fun z => Nat.ne_of_gt lt (List.mem_singleton.mp z)) xs len few (fun i v hv => SS.strs_at are i v (by rw [Array.getElem?_toList]; exact hv)) its.size 0 _ (by omega) ⟨⟨_, Heap.get?_push_size _ rfl, rfl, rfl⟩, isl'.push _⟩ ?_ ?_
      · have kept : ((s.heap.push (bareSet led)).push { cls := .type "list_iterator", data := .fields #[.ref l, .int 0 0] }).get? s.heap.objs.size = some (bareSet led) := Heap.get?_push_of_some _ isNew
        exact oset_bare kept hled
      · rintro ⟨h', g', d', tk', os'⟩ mv ts
        obtain rfl : g' = s.gens := mv.gens
        obtain rfl : d' = s.drawn := mv.drawn
        obtain rfl : os' = s.os := mv.os
        refine (wpAny_pure ?_ : wpAny _ _ _ _ _ _)
        show wpAny _ _ (ret Value.none) _ _ _
        refine wpAny_pure ⟨rfl, h', tk', rfl, ts, fun b o hb e => mv.heap b o ?_ (Heap.get?_push_of_some _ (Heap.get?_push_of_some _ e))⟩
        simp only [List.mem_cons, List.not_mem_nil, or_false, not_or]
        exact ⟨Nat.ne_of_lt hb, sz1 ▸ Nat.ne_of_lt (Nat.lt_succ_of_lt hb)⟩
    · rcases r2 with e | fl2
      · exact hr2
      cases fl2 with
      | ret r =>
        obtain ⟨rfl, h', tk, rfl, ts, kp⟩ := hr2
        repeat (any_goals (first | assumption | wp_step))
        exact goal _ _ ts kp
      | _ => exact hr2.elim
  | _ => exact hr.elim
end
section
variable {prog : Program} {w : World} {A : Around} {E : Value → Shared → Prop} {s : Shared}
set_option maxHeartbeats 3200000 in
/-- set(xs), xs a tuple of texts -/
theorem set_of_tupleO {l : Addr} {its : Array Value} {xs : List Str} {Q : Value → Shared → Prop} (calm : A.handled = none) (isl : s.heap.IsTuple l its) (are : StrsAre its.toList xs) (few : its.size + 1 < scanBound)
    (goal : ∀ (h' : Heap) (tk : Nat), OSet prog w h' s.heap.objs.size (unlikes xs) → (∀ b o, b < s.heap.objs.size → s.heap.get? b = some o → h'.get? b = some o) → Q (.ref s.heap.objs.size) { s with heap := h', toks := tk }) :
    wpAny (model prog w) A (call (.type "set") [.ref l]) Q E s := by
  obtain ⟨mc, mt, mro⟩ := PySem.F.called_set.mro
  have made := PySem.F.called_set.made
  have below := PySem.F.called_set.sub
  have noType := PySem.F.called_set.notType
  have creates := PySem.F.called_set.canCreate
  have checked := PySem.F.typeCall_set_1 (.ref l)
  refine wpAny_call (codeAny_of_tree ?_); show wpAny _ _ (callAny (.type "set") _) _ _ _
  refine wpAny_pure ⟨Code.quiet_builtin _ (by decide +kernel), ?_⟩; refine codeAny_builtin PySem.F.entry_type_call ?_
  rw [Around.under_plain (weight_type_call_type "set" [.ref l] []) rfl]
  repeat (any_goals (first | assumption | wp_step))
  refine codeAny_mono (set_new_led (.ref l) (E := E) (T := fun r t => ∃ led, (w.params.followText "set-order" = true ∨ led = true) ∧ r = .ref s.heap.objs.size ∧ t = { s with heap := s.heap.push (bareSet led) }) ⟨_, led_or _, rfl, rfl⟩) fun r t hr => ?_
  rcases r with e | fl
  · exact hr
  cases fl with
  | ret obj =>
    obtain ⟨led, hled, rfl, rfl⟩ := hr
    have isNew : (s.heap.push (bareSet led)).get? s.heap.objs.size = some (bareSet led) := Heap.get?_push_size _ rfl
    have isSet : Shared.TypeIs { s with heap := s.heap.push (bareSet led) } (.ref s.heap.objs.size) "set" := ⟨_, isNew, rfl⟩
    have looks := PySem.F.called_set.init.lookup
    have binds := PySem.F.called_set.init.bind (.ref s.heap.objs.size)
    repeat (any_goals (first | assumption | wp_step))
    refine codeAny_mono (codeAny_call_builtin (R := wants (fun r t => r = .none ∧ ∃ h' tk, t = { s with heap := h', toks := tk } ∧ OSet prog w h' s.heap.objs.size (unlikes xs) ∧ (∀ b o, b < s.heap.objs.size → s.heap.get? b = some o → h'.get? b = some o)) E) PySem.F.called_set.init.plain PySem.F.entry_set_init (check_set_init_1 isSet ?_)) fun r2 t2 hr2 => ?_
    · obtain ⟨⟨oc, od, dat, sl⟩, ho, hc, cnt, hd⟩ := isl
      simp only at hc hd
      subst hc hd
      have ho' : (s.heap.push (bareSet led)).get? l = some { cls := .type "tuple", dict := od, data := .seq its cnt, slots := sl } := Heap.get?_push_of_some _ ho
      have n1 := PySem.F.sub_tuple_set
      have n2 := PySem.F.sub_tuple_frozenset
      have n3 : (Value.type "tuple" == Value.type "dict") = false := by decide
      have isl' : (s.heap.push (bareSet led)).IsTuple l its := ⟨_, ho', rfl, cnt, rfl⟩
      unfold Builtin.«set.__init__» noKeywords Builtin.Frozenset.updateFrom
      generalize hit : pyIter = it
      wp_walk
      subst hit
      refine wpAny_pyIter_tuple isl' (wpAny_bind (wpAny_runValue ?_))
      have lt : l < s.heap.objs.size := Heap.lt_size ho
      have sz1 : (s.heap.push (bareSet led)).objs.size = s.heap.objs.size + 1 := Heap.size_push ..
      have far : l ≠ (s.heap.push (bareSet led)).objs.size := sz1 ▸ Nat.ne_of_lt (Nat.lt_succ_of_lt lt)
      have len : xs.length = its.size := by rw [← StrsAre.len_eq are, Array.length_toList]
      refine fill_O ((Walks.tuple (show A.in1.in1.in1.handled = none by simp [calm]) _ l far its).toS) s.heap.objs.size (fun hm => (List.mem_cons.mp hm).elim (fun z => Nat.ne_of_lt (Nat.lt_succ_self _) (z.trans sz1)) fun z => Nat.ne_of_gt lt (List.mem_singleton.mp z)) xs len few (fun i v hv => SS.strs_at are i v (by rw [Array.getElem?_toList]; exact hv)) its.size 0 _ (by omega) ⟨⟨_, Heap.get?_push_size _ rfl, rfl, rfl⟩, isl'.push _⟩ ?_ ?_
      · have kept : ((s.heap.push (bareSet led)).push { cls := .type "tuple_iterator", data := .fields #[.ref l, .int 0 0] }).get? s.heap.objs.size = some (bareSet led) := Heap.get?_push_of_some _ isNew
        exact oset_bare kept hled
      · rintro ⟨h', g', d', tk', os'⟩ mv ts
        obtain rfl : g' = s.gens := mv.gens
        obtain rfl : d' = s.drawn := mv.drawn
        obtain rfl : os' = s.os := mv.os
        refine (wpAny_pure ?_ : wpAny _ _ _ _ _ _)
        show wpAny _ _ (ret Value.none) _ _ _
        refine wpAny_pure ⟨rfl, h', tk', rfl, ts, fun b o hb e => mv.heap b o ?_ (Heap.get?_push_of_some _ (Heap.get?_push_of_some _ e))⟩
        simp only [List.mem_cons, List.not_mem_nil, or_false, not_or]
        exact ⟨Nat.ne_of_lt hb, sz1 ▸ Nat.ne_of_lt (Nat.lt_succ_of_lt hb)⟩
    · rcases r2 with e | fl2
      · exact hr2
      cases fl2 with
      | ret r =>
        obtain ⟨rfl, h', tk, rfl, ts, kp⟩ := hr2
        repeat (any_goals (first | assumption | wp_step))
        exact goal _ _ ts kp
      | _ => exact hr2.elim
  | _ => exact hr.elim
end
end
/-! Fw130: sorted(set(xs)) of texts, as an expression. -/
section
theorem strs_out : ∀ vs : List Value, (∀ v ∈ vs, ∃ k t, v = Value.str k t) → ∃ ys, StrsAre vs ys
  | [], _ => ⟨[], .nil⟩
  | v :: vs, h => by
    obtain ⟨k, t, rfl⟩ := h _ (List.mem_cons_self ..)
    obtain ⟨ys, r⟩ := strs_out vs fun u hu => h u (List.mem_cons_of_mem _ hu)
    exact ⟨k :: ys, .cons k t r⟩
def txtV : Value → Str
  | .str k _ => k
  | _ => Str.empty
theorem strs_txt {vs : List Value} {ys : List Str} (h : StrsAre vs ys) : ys = vs.map txtV := by
  induction h with
  | nil => rfl
  | cons y t _ ih => rw [List.map_cons, ← ih]; rfl
section
variable {prog : Program} {w : World} {A : Around} {E : Value → Shared → Prop} {s : Shared} {a : Addr} {l : List Str}
/-- sorted(s), s a set of texts -/
theorem sorted_oset {T : Value → Shared → Prop} (D : OSet prog w s.heap a l) (calm : A.handled = none) (few : l.length < 64)
    (goal : ∀ (s' : Shared) (p : Addr) (out : Array Value) (c : Nat) (ys : List Str), (∀ b o, s.heap.get? b = some o → s'.heap.get? b = some o) → s'.gens = s.gens → s'.os = s.os → s.heap.objs.size ≤ p → s'.heap.get? p = some (seqObj "list" out c) →
      StrsAre out.toList ys → ys.Perm l → sortedS ys = true → T (.ref p) s') : wpAny (model prog w) A (call (.builtin "sorted") [.ref a]) T E s := by
  obtain ⟨o, es, ep, tb, ho, ex, dt, good, pm, fw, fit, ris, led⟩ := D
  refine Calls.call_function_entry kind_sorted plain_sorted entry_sorted (args_sorted1 _) ?_; unfold Builtin.«sorted»
  refine wpAny_bind (m := checkCount "sorted" 1 1 _) (wpAny_pure (wpAny_bind (collect_set (A := A.in1) calm ⟨o, ho, ex.1, dt⟩ fit fw ris led fun s1 vs k1 z1 g1 o1 pv => ?_)))
  have all : ∀ v ∈ vs, ∃ k t, v = Value.str k t := fun v hv => by
    obtain ⟨e, he, q⟩ := List.mem_map.mp (pv.mem_iff.mp hv)
    obtain ⟨k, t, e1, _⟩ := good e he
    exact ⟨k, t, q ▸ e1⟩
  obtain ⟨ss, hS⟩ := strs_out vs all
  have pss : ss.Perm l := by
    rw [strs_txt hS]
    refine (pv.map txtV).trans ?_
    rw [List.map_map]
    exact pm
  have vl : vs.length < 64 := by
    have h1 := pss.length_eq
    rw [strs_txt hS, List.length_map] at h1
    omega
  refine wpAny_bind (wpAny_newList ?_ (by rw [sizeLine_eq]; omega))
  have new : (s1.heap.push (seqObj "list" vs.toArray 0)).get? s1.heap.objs.size = some (seqObj "list" vs.toArray 0) := Heap.get?_push_size _ rfl
  refine wpAny_bind (wpAny_holding (wpAny_call_entry slot_list_sort ⟨_, new, rfl⟩ entry_list_sort (list_sort_treeK strKind_oneLt new hS.keysOf (fun v₁ v₂ rest e => keyKind_strs (e ▸ hS)) vl fun st p1 p2 => ?_) (args_list_sort _)))
  obtain ⟨ys, r1, r2, r3⟩ := sorted_out_str hS p1 p2
  obtain ⟨c, hc⟩ := sortedHeap_at (vs := vs) (out := (arrOf st).map (·.2)) new
  refine ⟨_, rfl, wpAny_pure ⟨_, rfl, goal _ _ _ c ys (fun b u e => ?_) g1 o1 z1 hc r1 (r2.trans pss) r3⟩⟩
  have lt := Heap.lt_size (k1 b u e)
  have q := sortedHeap_old (h := s1.heap.push (seqObj "list" vs.toArray 0)) (a := s1.heap.objs.size) (vs := vs) (out := (arrOf st).map (·.2)) (Nat.ne_of_lt lt) (by rw [size_push']; exact Nat.lt_succ_of_lt lt)
  exact q.trans (Heap.get?_push_of_some _ (k1 b u e))
end
end
/-! Fw131: sorted(set(xs)) of texts, its worth. -/
section
def leS (a b : Str) : Prop := ¬ b.cps.toList < a.cps.toList
theorem leS_trans {a b c : Str} (h1 : leS a b) (h2 : leS b c) : leS a c := by
  have := List.le_trans (l₁ := a.cps.toList) (l₂ := b.cps.toList) (l₃ := c.cps.toList) (List.not_lt.mp h1) (List.not_lt.mp h2)
  exact List.not_lt.mpr this
theorem leS_anti {a b : Str} (h1 : leS a b) (h2 : leS b a) : a = b := by
  have e := List.le_antisymm (List.not_lt.mp h1) (List.not_lt.mp h2)
  obtain ⟨⟨x⟩⟩ := a
  obtain ⟨⟨y⟩⟩ := b
  simp only at e
  rw [e]
theorem rising_pw : ∀ (l : List Str) (p : Str), risingS p l = true → (p :: l).Pairwise leS
  | [], p, _ => List.pairwise_singleton _ _
  | x :: r, p, h => by
    simp only [risingS, Bool.and_eq_true, Bool.not_eq_true'] at h
    have ih := rising_pw r x h.2
    have hx : leS p x := by
      have := h.1
      rw [ltCps_eq] at this
      exact of_decide_eq_false this
    refine List.pairwise_cons.mpr ⟨fun y hy => ?_, ih⟩
    rcases List.mem_cons.mp hy with e | hy
    · rw [e]; exact hx
    · exact leS_trans hx ((List.pairwise_cons.mp ih).1 y hy)
theorem sortedS_pw {l : List Str} (h : sortedS l = true) : l.Pairwise leS := by
  cases l with
  | nil => exact List.Pairwise.nil
  | cons x r => exact rising_pw r x h
theorem sortU_eq {xs ys : List Str} (p : ys.Perm (unlikes xs)) (s : sortedS ys = true) : sortU xs = ys := by
  have h : ∃ ys : List Str, ys.Perm (unlikes xs) ∧ sortedS ys = true := ⟨ys, p, s⟩
  unfold sortU
  rw [dif_pos h]
  obtain ⟨p2, s2⟩ := h.choose_spec
  exact List.Perm.eq_of_pairwise (fun a b _ _ => leS_anti) (sortedS_pw s2) (sortedS_pw s) (p2.trans p.symm)
def tSortU (K : PySem.W.Frag) (ta : TE) : TE := fun σ H Q => ta σ H fun x H1 => ∃ (l : Addr) (xs : List Str), x = .ref l ∧ (SqL K H1 l (xs.map V.str) ∨ SqT K H1 l (xs.map V.str)) ∧ xs.length < 64 ∧ ∀ p, (sortU xs).Perm (unlikes xs) → sortedS (sortU xs) = true → H1 p = none → Q (.ref p) (upd H1 p (.lst ((sortU xs).map V.str)))
section
variable {X : Cx} {W : WX} {a : Expr} {ta : TE} {ea : TV} {p p2 q pos : Pos}
theorem pe_sortU (hc : X.calm = true) (gl : Gl X "sorted") (ml : X.mg "sorted" = none) (gs : Gl X "set") (ms : X.mg "set" = none) (ha : PE X a ta) (na : starEach [a] X.env = (false, eval a X.env) :: starEach [] X.env := by rfl) :
    PE X (.Call (.Name "sorted" p) [.Call (.Name "set" p2) [a] [] q] [] pos) (tSortU X.K ta) := by
  refine ⟨fun pins s σ H Q I h => Call_ (ld_blt I gl ml boot_sorted ?_)⟩
  refine PyProof.Rows.callWith_builtin1 (PyProof.Rows.args_cons (Call_ (ld_blt I gs ms PyProof.Rows.boot_set ?_)) rfl) rfl rfl
  refine PyProof.Rows.callWith_type1 (PyProof.Rows.args_cons (thn (ha.run pins s σ H _ I h) fun v t ⟨x, H1, J, rv, g⟩ => PyProof.Rows.args_nil ?_) na) na rfl
  obtain ⟨l, xs, rfl, sq, few, g⟩ := g
  cases rv
  have last : ∀ (h' : Heap) (tk : Nat), OSet X.prog X.w h' t.heap.objs.size (unlikes xs) → (∀ b o, b < t.heap.objs.size → t.heap.get? b = some o → h'.get? b = some o) →
      wpAny (model X.prog X.w) X.A (spliced (backTo pos (starEach [] X.env))) (fun vs u => wpAny (model X.prog X.w) X.A (call (.builtin "sorted") (Value.ref t.heap.objs.size :: vs)) (EP X pins σ Q) X.xe u) X.xe { t with heap := h', toks := tk } := by
    intro h' tk D keep
    have J2 : Inv X pins σ H1 { t with heap := h', toks := tk } := J.kept fun b o e => keep b o (Heap.lt_size e) e
    have le := unlikes_len xs
    refine PyProof.Rows.args_nil (sorted_oset D (J.ok.hd hc) (by omega) fun s' r out c ys k gn os hp hg st pm so => ?_)
    have hlen : (ys.map V.str).length ≤ sizeLine := by rw [List.length_map, pm.length_eq, sizeLine_eq]; omega
    have hn : H1 r = none := J2.hok.fresh hp
    have J3 := Inv.call (ch := []) (h' := s'.heap) (H' := upd H1 r (.lst (ys.map V.str))) (g' := s'.gens) (d' := s'.drawn) (t' := s'.toks) J2 (Un.laid k hp hn) (J2.hok.laid k hp ⟨hlen, out.toList, c, vals_of_strs st, hg⟩) (by rw [gn]; exact J2.bare) (fun _ z => nomatch z)
    have e : s' = { t with heap := s'.heap, gens := s'.gens, drawn := s'.drawn, toks := s'.toks } := by
      rcases s'; rcases t; cases os; rfl
    rw [e]
    have eu := sortU_eq pm so
    exact ⟨.ref r, _, J3, rfl, eu ▸ g r (eu.symm ▸ pm) (eu.symm ▸ so) hn⟩
  rcases sq with sq | sq
  · obtain ⟨its, r, pl, _⟩ := J.list sq
    have n1 : its.toArray.size = xs.length := by rw [List.size_toArray, ← r.length, List.length_map]
    exact set_of_listO (J.ok.hd hc) pl.isList (by simpa using L2.strsAre_of r) (by rw [n1]; unfold scanBound; omega) last
  · obtain ⟨its, r, pl, _⟩ := J.tuple sq
    have n1 : its.toArray.size = xs.length := by rw [List.size_toArray, ← r.length, List.length_map]
    exact set_of_tupleO (J.ok.hd hc) pl (by simpa using L2.strsAre_of r) (by rw [n1]; unfold scanBound; omega) last
end
end
/-! Fw132: sorted(set(xs)): the rule. -/
section
def leB (a b : Str) : Bool := !(decide (b.cps.toList < a.cps.toList))
theorem leB_iff {a b : Str} : leB a b = true ↔ leS a b := by unfold leB leS; simp
theorem sortU_ok (xs : List Str) : (sortU xs).Perm (unlikes xs) ∧ sortedS (sortU xs) = true := by
  have tr : ∀ a b c : Str, leB a b = true → leB b c = true → leB a c = true := fun a b c h1 h2 => leB_iff.mpr (leS_trans (leB_iff.mp h1) (leB_iff.mp h2))
  have tot : ∀ a b : Str, (leB a b || leB b a) = true := fun a b => by
    rw [Bool.or_eq_true, leB_iff, leB_iff]
    rcases List.le_total a.cps.toList b.cps.toList with h | h
    · exact .inl (List.not_lt.mpr h)
    · exact .inr (List.not_lt.mpr h)
  have pw := List.pairwise_mergeSort (le := leB) tr tot (unlikes xs)
  have pm := List.mergeSort_perm (unlikes xs) leB
  have so : sortedS (List.mergeSort (unlikes xs) leB) = true := sortedS_of_pairwise _ (pw.imp fun {a b} h => by
    rw [ltCps_eq]
    exact decide_eq_false (leB_iff.mp h))
  rw [sortU_eq pm so]
  exact ⟨pm, so⟩
theorem RVs.sok {K : PySem.W.Frag} {μ : List Addr} {H : Hp} : ∀ {ys : List Str} {vs : List V}, RVs K μ H (ys.map PV.str) vs → ∀ y ∈ ys, SOk y
  | [], _, _, y, hy => by cases hy
  | z :: ys, _, .cons r t, y, hy => by
    rcases List.mem_cons.mp hy with e | hy
    · subst e
      cases r with
      | str _ h => exact h
    · exact RVs.sok t y hy
theorem asStr_map : ∀ {xs : List PV} {bs : List Str}, asStr xs = some bs → xs = bs.map .str
  | [], bs, h => by cases h; rfl
  | x :: xs, bs, h => by
    cases x <;> simp only [asStr, Option.map_eq_some_iff, reduceCtorEq] at h
    obtain ⟨cs, h1, rfl⟩ := h
    rw [asStr_map h1]; rfl
section
variable {X : Cx} {W : WX} {a : Expr} {ta : TE} {ea : TV} {p p2 q pos : Pos}
theorem sl_sortSet (hc : X.calm = true) (gl : Gl X "sorted") (ml : X.mg "sorted" = none) (gs : Gl X "set") (ms : X.mg "set" = none) (ha : PE X a (E_ X W ea)) (na : starEach [a] X.env = (false, eval a X.env) :: starEach [] X.env := by rfl) :
    PE X (.Call (.Name "sorted" p) [.Call (.Name "set" p2) [a] [] q] [] pos) (L_ X W (lSortSet ea)) := by
  refine PE.imp (pe_sortU hc gl ml gs ms ha na) fun σ H Q h => ?_
  obtain ⟨μ, S, ρ, R, E, p⟩ := h
  refine ⟨μ, S, ρ, R, E, Post.step (P := fun μ H r => PostL X.K (cmX X) μ H r Q (atσ W σ)) p (fun _ _ h => h) (fun h => h) fun x S1 μ1 H1 v E1 R1 rv p => ?_⟩
  have ds := deref_seq R1 rv
  have one : ∀ (xs : List PV) (ad : Addr) (vs : List V), (SqL X.K H1 ad vs ∨ SqT X.K H1 ad vs) → RVs X.K μ1 H1 xs vs → PostL X.K (cmX X) μ H (sortL xs S1) Q (atσ W σ) →
      ∃ (l : Addr) (bs : List Str), V.ref ad = .ref l ∧ (SqL X.K H1 l (bs.map V.str) ∨ SqT X.K H1 l (bs.map V.str)) ∧ bs.length < 64 ∧ ∀ p, (sortU bs).Perm (unlikes bs) → sortedS (sortU bs) = true → H1 p = none → Q (.ref p) (upd H1 p (.lst ((sortU bs).map V.str))) := fun xs ad vs sq r p => by
    unfold sortL at p
    split at p
    · rename_i bs hb
      split at p
      · rename_i few
        have e2 := asStr_ok r hb
        subst e2
        have ex := asStr_map hb
        subst ex
        refine ⟨ad, bs, rfl, sq, few, fun q pm so hq => ?_⟩
        have ok : ∀ y ∈ sortU bs, SOk y := fun y hy => by
          have h1 := pm.mem_iff.mp hy
          have h2 : ∀ (l : List Str) (z : Str), z ∈ unlikes l → z ∈ l := by
            refine snocInd (fun z h => by simp [unlikes] at h) fun l x ih z h => ?_
            rw [unlikes_snoc, mem_oneMore] at h
            rcases h with h | h
            · exact List.mem_append_left _ (ih z h)
            · rw [h]; simp
          exact RVs.sok r y (h2 _ _ h1)
        refine p μ1 _ _ (E1.trans (Ext.fresh hq)) (R1.fresh hq) ⟨E1.none' R1 hq, fun hm => R1.trk hm hq, (sortU bs).map V.str, upd_same, ?_, RVs.strs ok⟩
        have := pm.length_eq
        have := unlikes_len bs
        rw [List.length_map, sizeLine_eq]
        omega
      · exact p.elim
    · exact p.elim
  split at p
  · rename_i xs e
    obtain ⟨ad, vs, rfl, sq, l, r⟩ := ds.1 xs e
    exact one xs ad vs (.inl sq) r p
  · rename_i xs e
    obtain ⟨ad, vs, rfl, sq, l, r⟩ := ds.2.1 xs e
    exact one xs ad vs (.inr sq.sq) r p
  · exact p.elim
end
section
variable {QL : LL → Store → Prop} {E : PX → Store → Prop} {ρ : Env'} {S : Store} {a : TV}
def SortR (x : PV) (S : Store) (QL : LL → Store → Prop) : Prop := match deref S x with
  | .frl xs => Op (asStr xs) fun bs => bs.length < 64 ∧ QL ((sortU bs).map .str, none) S
  | .tup xs => Op (asStr xs) fun bs => bs.length < 64 ∧ QL ((sortU bs).map .str, none) S
  | _ => False
theorem w_sortSet (h : W (a ρ S) (fun x S => SortR x S QL) E) : W (lSortSet a ρ S) QL E := by
  refine W_bind (W_mono h (fun x S h => ?_) fun _ _ h => h)
  have one : ∀ xs, Op (asStr xs) (fun bs => bs.length < 64 ∧ QL ((sortU bs).map .str, none) S) → W (sortL xs S) QL E := by
    intro xs h
    unfold sortL
    cases hb : asStr xs with
    | none => rw [hb] at h; exact h.elim
    | some bs =>
      rw [hb] at h
      dsimp only
      rw [if_pos h.1]
      exact h.2
  unfold SortR at h
  cases hd : deref S x with
  | frl xs => rw [hd] at h; exact one xs h
  | tup xs => rw [hd] at h; exact one xs h
  | _ => rw [hd] at h; exact h.elim
theorem sortR_ref {j : Nat} {bs : List Str} (g : S[j]? = some (.lst (bs.map .str))) (few : bs.length < 64) (q : (sortU bs).Perm (unlikes bs) → QL ((sortU bs).map .str, none) S) : SortR (.ref j) S QL := by
  unfold SortR
  rw [deref_ref g]
  dsimp only
  exact Op.of (asStr_strs bs) ⟨few, q (sortU_ok bs).1⟩
end
theorem mem_unlikes (l : List Str) : ∀ z, z ∈ unlikes l ↔ z ∈ l := by
  revert l
  refine snocInd (by simp [unlikes]) fun l x ih z => ?_
  rw [unlikes_snoc, mem_oneMore, ih z]; simp
theorem nodup_unlikes (l : List Str) : (unlikes l).Nodup := by
  revert l
  refine snocInd (by simp [unlikes]) fun l x ih => ?_
  rw [unlikes_snoc]
  unfold oneMore
  split
  · exact ih
  · rename_i h
    exact List.nodup_append.mpr ⟨ih, by simp, fun a ha b hb => by rw [List.mem_singleton.mp hb]; rintro rfl; exact h ha⟩
end
/-! Fw133: x or y as a value, by truth. -/
section
section
variable {X : Cx} {W : WX} {a b : Expr} {ea eb : TV} {rest : List Expr} {pos : Pos}
theorem sv_orT (ha : PE X a (E_ X W ea)) (hb : PE X (.BoolOp .Or (b :: rest) pos) (E_ X W eb)) : PE X (.BoolOp .Or (a :: b :: rest) pos) (E_ X W (vOrT ea eb)) := by
  refine PE.imp (pe_orT ha hb) fun σ H Q h => ?_
  obtain ⟨μ, S, ρ, R, E, p⟩ := h
  refine ⟨μ, S, ρ, R, E, Post.step (P := fun μ H r => Post X.K (cmX X) μ H r Q (atσ W σ)) p (fun _ _ h => h) (fun h => h) fun x S1 μ1 H1 v E1 R1 rv p => ?_⟩
  cases hf : truth x S1 with
  | none => rw [hf] at p; exact p.elim
  | some k =>
    rw [hf] at p
    refine ⟨k, truth_ok R1 rv hf, ?_⟩
    cases k with
    | true => exact p μ1 H1 _ E1 R1 rv
    | false => exact ⟨μ1, S1, ρ, R1, E.mono R E1, Post.ext E1 p⟩
end
section
variable {Q : PV → Store → Prop} {E : PX → Store → Prop} {ρ : Env'} {S : Store} {a b : TV}
theorem w_orT (h : W (a ρ S) (fun x S => Op (truth x S) fun k => Br k (Q x S) (W (b ρ S) Q E)) E) : W (vOrT a b ρ S) Q E := by
  refine W_bind (W_mono h (fun x S h => ?_) fun _ _ h => h)
  cases ht : truth x S with
  | none => rw [ht] at h; exact h.elim
  | some k =>
    rw [ht] at h
    cases k with
    | true => exact (show Br true (Q x S) (W (b ρ S) Q E) from h).1 rfl
    | false => exact (show Br false (Q x S) (W (b ρ S) Q E) from h).2 rfl
end
end
end Ev
namespace Ev
open PySem PySem.Spec PyProof.Rows L2 SX
local macro_rules | `(tactic| walk_at "w") => `(tactic| first
  | (with_reducible apply s_set; focus (repeat first | exact SetR.zero | apply SetR.succ))
  | (with_reducible apply w_get; focus (repeat first | exact GetR.zero | apply GetR.succ))
  | with_reducible first
  | refine s_seqN ?_ | refine s_seq ?_ | refine q_nx ?_ | refine q_ret ?_ | refine q_brk ?_ | refine q_cnt ?_ | refine q_exc ?_
  | refine s_nil ?_ | refine s_pass ?_ | refine s_brk ?_ | refine s_cnt ?_ | refine s_expr ?_ | refine s_ret ?_ | refine s_retN ?_ | refine s_if ?_ | refine s_unp ?_ | refine s_sub ?_ | refine s_for ?_
  | refine w_c ?_ | (refine w_str ?_ ?_; decide +kernel) | refine w_bin ?_ | refine w_un ?_ | refine w_chn ?_ | refine w_bV ?_ | refine w_bBl ?_ | refine w_bAnd ?_ | refine w_bOr ?_ | refine w_bNot ?_ | refine w_bYes ?_
  | refine w_vAnd ?_ | refine w_vOr ?_ | refine w_vNot ?_ | refine w_vIf ?_ | refine w_nil ?_ | refine w_cons ?_ | refine w_tup ?_ | refine w_disp ?_ | refine w_new ?_ | refine lnew ?_ | refine w_oNone ?_ | refine w_oSome ?_ | refine w_slc ?_ | refine w_lslc ?_ | refine slcT ?_ | refine slcS ?_
  | refine w_call ?_ | refine w_callL ?_ | refine w_lcallL ?_ | refine w_lcallN ?_ | refine w_isi ?_ | refine w_app ?_ | refine w_app0 ?_ | refine w_lval ?_ | refine w_cat ?_ | refine w_eqL ?_ | refine w_lm ?_ | refine w_ext ?_ | refine w_sm ?_ | refine w_sm0 ?_ | refine w_lsm ?_ | refine w_smL ?_ | refine w_dic0 ?_ | refine w_dic1 ?_ | refine w_iV ?_ | refine w_iL ?_ | refine il_none ?_ | refine il_some ?_ | refine w_rng ?_ | refine w_comp ?_ | refine w_rev ?_ | refine w_lenSet ?_ | refine w_extV ?_
  | refine o_addI ?_ | refine o_iadd ?_ | refine o_sub ?_ | refine o_neg ?_ | refine o_ltI ?_ | refine o_le ?_ | refine o_gt ?_ | refine o_ge ?_ | refine o_is ?_ | refine o_isNot ?_ | refine o_lenT ?_ | refine o_lenF ?_ | refine o_lenS ?_ | refine o_intB ?_ | refine o_intI ?_ | refine o_max ?_ | refine o_min ?_ | refine o_tupT ?_ | refine o_eqI ?_ | refine o_eqS ?_ | refine o_eqB ?_
  | refine b_is ?_ | refine i_is ?_ | refine s_is ?_ | refine i_tup ?_ | refine i_str ?_ | refine tr_bl ?_ | refine ty_bl ?_ | refine ty_str ?_ | refine ty_tup ?_ | refine ty_int ?_ | refine k_s ?_ | refine k_i ?_
  | refine Br.tt ?_ | refine Br.ff ?_ | refine Br.nf ?_ | refine Br.nt ?_ | refine f_ret ?_ | refine f_nx ?_ | refine f_body ?_)
local macro_rules | `(tactic| walk_at "sget") => `(tactic| first
  | assumption | exact get_app _ _ _ | exact trivial
  | (refine get_set ?_; walk_at "sget") | (refine get_app_lt ?_; walk_at "sget"))
local macro_rules | `(tactic| walk_at "len") => `(tactic| first
  | exact Nat.zero_le _ | exact len_le rfl
  | (have hbig := sizeLine_eq; simp only [List.length_map, List.length_cons, List.length_nil, List.length_append, List.length_take, List.length_drop, List.length_reverse, List.length_set, List.length_range]; omega))
local macro_rules | `(tactic| walk_at "off") => `(tactic| focus rfl)
local macro_rules | `(tactic| walk_at "e") => `(tactic| simp only [wipeE, reset, List.foldl_cons, List.foldl_nil, List.set_cons_succ, List.set_cons_zero])
local macro_rules | `(tactic| walk_at "kp") => `(tactic| first | assumption | exact Kp.refl _ | exact Kp.app _ _ | (refine Kp.trans ?_ (Kp.app _ _); walk_at "kp"))
local macro_rules | `(tactic| walk_at "set") => `(tactic| first | exact setR0 | exact setR1 | exact setR2 | exact setR3 | exact setR4 | exact setR5 | exact setR6 | exact setR7 | exact setR8 | exact setR9 | exact setR10 | exact setR11 | exact setR12 | (repeat first | exact SetR.zero | apply SetR.succ))
local macro_rules | `(tactic| walk_at "f") => `(tactic| fail)
local macro_rules | `(tactic| walk_at "x") => `(tactic| first
  | ((with_reducible show W _ _ _); first
    | ((with_reducible apply w_var); (focus exact rfl))
    | with_reducible first | refine w_c ?_ | refine w_cons ?_ | refine w_nil ?_ | refine w_bin ?_ | refine w_app ?_ | refine w_call ?_ | refine w_tup ?_ | refine w_bBl ?_ | refine w_new ?_ | refine w_iV ?_ | refine w_comp ?_ | refine w_iL ?_ | refine w_bV ?_ | refine w_disp ?_ | refine w_vAnd ?_ | refine w_vOr ?_ | refine w_bAnd ?_ | refine w_bOr ?_ | refine w_bNot ?_ | refine w_bYes ?_ | refine w_isi ?_ | refine w_callL ?_ | refine w_lval ?_ | refine w_lm ?_ | refine w_chn ?_ | refine w_un ?_ | refine w_oNone ?_ | refine w_oSome ?_ | refine w_slc ?_ | refine w_lslc ?_ | refine w_rng ?_ | refine w_vNot ?_ | refine w_vIf ?_ | refine w_cat ?_ | refine w_eqL ?_ | refine w_lenSet ?_ | refine w_app0 ?_ | refine w_extV ?_ | refine w_ext ?_ | refine w_lcallL ?_ | refine w_lcallN ?_ | refine w_sm ?_ | refine w_sm0 ?_ | refine w_lsm ?_ | refine w_smL ?_ | refine w_dic0 ?_ | refine w_dic1 ?_ | refine w_rev ?_ | refine f_ret ?_ | refine f_nx ?_
    | ((with_reducible refine g_keep ?_ ?_ ?_); (focus walk_at "kp"); (focus rfl))
    | (with_reducible refine w_str ?_ ?_; decide +kernel)
    | walk_at "f"
    | with_reducible refine f_body ?_)
  | ((with_reducible show WS _ _); first
    | with_reducible first | refine s_seqN ?_ | refine s_seq ?_ | refine q_nx ?_
    | ((with_reducible apply s_set); (focus walk_at "set"))
    | with_reducible first | refine s_expr ?_ | refine s_ret ?_ | refine s_if ?_ | refine s_nil ?_ | refine q_ret ?_ | refine s_unp ?_ | refine s_sub ?_ | refine s_for ?_ | refine q_cnt ?_ | refine q_brk ?_ | refine q_exc ?_ | refine s_retN ?_ | refine s_cnt ?_ | refine s_brk ?_ | refine s_pass ?_)
  | ((with_reducible show Op _ _); first
    | ((with_reducible apply t_n); (focus walk_at "set"))
    | with_reducible first
      | refine t_cons ?_ | refine t_nil ?_ | refine t_tup ?_ | refine i_tup ?_
      | refine o_lenT ?_
      | refine o_eqS ?_ | refine o_eqI ?_ | refine o_eqB ?_ | refine o_neI ?_ | refine o_neS ?_ | refine o_neB ?_ | refine o_is ?_ | refine o_isNot ?_ | refine o_isT ?_ | refine o_isNT ?_ | refine o_isF ?_ | refine o_isNF ?_
      | refine o_addI ?_ | refine o_sub ?_ | refine o_neg ?_ | refine o_ltI ?_ | refine o_le ?_ | refine o_gt ?_ | refine o_ge ?_ | refine o_iadd ?_
      | refine tr_bl ?_ | refine ty_bl ?_ | refine ty_str ?_ | refine ty_tup ?_ | refine ty_int ?_ | refine o_tupT ?_
      | refine o_lenF ?_ | refine o_lenS ?_ | refine o_intB ?_ | refine o_intI ?_ | refine o_max ?_ | refine o_min ?_ | refine i_str ?_ | refine k_s ?_ | refine k_i ?_
    | ((with_reducible apply o_idxT); (focus first | exact at0 _ _ | exact at1 _ _ _ | exact at2 _ _ _ _ | exact at3 _ _ _ _ _))
    | ((with_reducible apply i_ref); (focus walk_at "sget"))
    | ((with_reducible apply o_getL); (focus walk_at "sget"))
    | ((with_reducible apply o_lenR); (focus walk_at "sget"))
    | ((with_reducible apply o_idxR); (focus walk_at "sget"); (focus first | exact at0 _ _ | exact at1 _ _ _ | exact at2 _ _ _ _))
    | ((with_reducible apply o_tupR); (focus walk_at "sget"))
    | ((with_reducible apply o_listR); (focus walk_at "sget"))
    | ((with_reducible refine o_mod ?_ ?_); (focus omega))
    | ((with_reducible refine o_div ?_ ?_); (focus omega))
    | ((with_reducible refine o_pow ?_ ?_); (focus decide))
    | ((with_reducible refine o_app ?_ ?_); (focus walk_at "len"))
    | walk_at "f")
  | with_reducible first | refine b_is ?_ | refine i_is ?_ | refine s_is ?_ | refine Br.tt ?_ | refine Br.ff ?_ | refine Br.nf ?_ | refine Br.nt ?_ | refine lnew ?_ | refine il_none ?_ | refine il_some ?_ | refine revT ?_ | refine slcT ?_ | refine slcS ?_
  | ((with_reducible refine Br.of_tt ?_ ?_); focus (first | assumption | rfl | exact beq_self_eq_true _ | (simp only [decide_eq_true_eq]; omega)))
  | ((with_reducible refine Br.of_ff ?_ ?_); focus (first | assumption | rfl | (rw [beq_self_eq_true]; rfl) | (simp only [decide_eq_false_iff_not]; omega)))
  | ((with_reducible refine And.intro ?_ ?_); (focus first | ((with_reducible show _ ≤ sizeLine); walk_at "len") | ((with_reducible show lkOk _ _); walk_at "sget")))
  | ((with_reducible refine seek_nx ?_ ?_); (focus rfl); walk_at "off") | ((with_reducible refine seek_cnt ?_ ?_); (focus rfl); walk_at "off") | ((with_reducible refine seek_ret ?_); focus rfl))
local macro_rules | `(tactic| walk_at "b") => `(tactic| with_reducible first | refine b_is ?_ | refine Br.tt ?_ | refine Br.ff ?_ | refine Br.nf ?_ | refine Br.nt ?_ | refine tr_bl ?_)
local macro_rules | `(tactic| walk_at "y") => `(tactic| (fail_if_success (with_reducible refine s_if ?_)); walk_at "x")
local macro_rules | `(tactic| walk_at "f") => `(tactic| with_reducible first | refine w_iEn ?_ | refine w_iZp ?_ | refine zs_two ?_ | refine en_tup ?_ | refine en_frl ?_ | refine z_tup ?_ | refine i_frl ?_ | refine w_revT ?_)
local macro_rules | `(tactic| walk_at "x") => `(tactic| first
  | with_reducible first | refine s_raise1 ?_ | refine s_raise0 ?_ | refine s_try ?_ | refine tq_nx ?_ | refine tq_ret ?_ | refine f_exc ?_ | refine q_offR ?_
  | ((with_reducible refine q_off ?_ ?_); (focus (repeat first | exact OffR.zero | apply OffR.succ))))
/-! Fw134 -/
section
local macro_rules | `(tactic| walk_at "f") => `(tactic| (with_reducible first | refine w_lcallL ?_ | refine w_lcallN ?_ | refine w_orT ?_ | refine w_sortSet ?_))
/-! ### ended, closed -/
end
end Ev
/-! Fw135 -/

namespace Ev
open PySem PySem.Spec PyProof.Rows L2 SX
local macro_rules | `(tactic| walk_at "w") => `(tactic| first
  | (with_reducible apply s_set; focus (repeat first | exact SetR.zero | apply SetR.succ))
  | (with_reducible apply w_get; focus (repeat first | exact GetR.zero | apply GetR.succ))
  | with_reducible first
  | refine s_seqN ?_ | refine s_seq ?_ | refine q_nx ?_ | refine q_ret ?_ | refine q_brk ?_ | refine q_cnt ?_ | refine q_exc ?_
  | refine s_nil ?_ | refine s_pass ?_ | refine s_brk ?_ | refine s_cnt ?_ | refine s_expr ?_ | refine s_ret ?_ | refine s_retN ?_ | refine s_if ?_ | refine s_unp ?_ | refine s_sub ?_ | refine s_for ?_
  | refine w_c ?_ | (refine w_str ?_ ?_; decide +kernel) | refine w_bin ?_ | refine w_un ?_ | refine w_chn ?_ | refine w_bV ?_ | refine w_bBl ?_ | refine w_bAnd ?_ | refine w_bOr ?_ | refine w_bNot ?_ | refine w_bYes ?_
  | refine w_vAnd ?_ | refine w_vOr ?_ | refine w_vNot ?_ | refine w_vIf ?_ | refine w_nil ?_ | refine w_cons ?_ | refine w_tup ?_ | refine w_disp ?_ | refine w_new ?_ | refine lnew ?_ | refine w_oNone ?_ | refine w_oSome ?_ | refine w_slc ?_ | refine w_lslc ?_ | refine slcT ?_ | refine slcS ?_
  | refine w_call ?_ | refine w_callL ?_ | refine w_lcallL ?_ | refine w_lcallN ?_ | refine w_isi ?_ | refine w_app ?_ | refine w_app0 ?_ | refine w_lval ?_ | refine w_cat ?_ | refine w_eqL ?_ | refine w_lm ?_ | refine w_ext ?_ | refine w_sm ?_ | refine w_sm0 ?_ | refine w_lsm ?_ | refine w_smL ?_ | refine w_dic0 ?_ | refine w_dic1 ?_ | refine w_iV ?_ | refine w_iL ?_ | refine il_none ?_ | refine il_some ?_ | refine w_rng ?_ | refine w_comp ?_ | refine w_rev ?_ | refine w_lenSet ?_ | refine w_extV ?_
  | refine o_addI ?_ | refine o_iadd ?_ | refine o_sub ?_ | refine o_neg ?_ | refine o_ltI ?_ | refine o_le ?_ | refine o_gt ?_ | refine o_ge ?_ | refine o_is ?_ | refine o_isNot ?_ | refine o_lenT ?_ | refine o_lenF ?_ | refine o_lenS ?_ | refine o_intB ?_ | refine o_intI ?_ | refine o_max ?_ | refine o_min ?_ | refine o_tupT ?_ | refine o_eqI ?_ | refine o_eqS ?_ | refine o_eqB ?_
  | refine b_is ?_ | refine i_is ?_ | refine s_is ?_ | refine i_tup ?_ | refine i_str ?_ | refine tr_bl ?_ | refine ty_bl ?_ | refine ty_str ?_ | refine ty_tup ?_ | refine ty_int ?_ | refine k_s ?_ | refine k_i ?_
  | refine Br.tt ?_ | refine Br.ff ?_ | refine Br.nf ?_ | refine Br.nt ?_ | refine f_ret ?_ | refine f_nx ?_ | refine f_body ?_)
local macro_rules | `(tactic| walk_at "sget") => `(tactic| first
  | assumption | exact get_app _ _ _ | exact trivial
  | (refine get_set ?_; walk_at "sget") | (refine get_app_lt ?_; walk_at "sget"))
local macro_rules | `(tactic| walk_at "len") => `(tactic| first
  | exact Nat.zero_le _ | exact len_le rfl
  | (have hbig := sizeLine_eq; simp only [List.length_map, List.length_cons, List.length_nil, List.length_append, List.length_take, List.length_drop, List.length_reverse, List.length_set, List.length_range]; omega))
local macro_rules | `(tactic| walk_at "off") => `(tactic| focus rfl)
local macro_rules | `(tactic| walk_at "e") => `(tactic| simp only [wipeE, reset, List.foldl_cons, List.foldl_nil, List.set_cons_succ, List.set_cons_zero])
local macro_rules | `(tactic| walk_at "kp") => `(tactic| first | assumption | exact Kp.refl _ | exact Kp.app _ _ | (refine Kp.trans ?_ (Kp.app _ _); walk_at "kp"))
local macro_rules | `(tactic| walk_at "set") => `(tactic| first | exact setR0 | exact setR1 | exact setR2 | exact setR3 | exact setR4 | exact setR5 | exact setR6 | exact setR7 | exact setR8 | exact setR9 | exact setR10 | exact setR11 | exact setR12 | (repeat first | exact SetR.zero | apply SetR.succ))
local macro_rules | `(tactic| walk_at "f") => `(tactic| fail)
local macro_rules | `(tactic| walk_at "x") => `(tactic| first
  | ((with_reducible show W _ _ _); first
    | ((with_reducible apply w_var); (focus exact rfl))
    | with_reducible first | refine w_c ?_ | refine w_cons ?_ | refine w_nil ?_ | refine w_bin ?_ | refine w_app ?_ | refine w_call ?_ | refine w_tup ?_ | refine w_bBl ?_ | refine w_new ?_ | refine w_iV ?_ | refine w_comp ?_ | refine w_iL ?_ | refine w_bV ?_ | refine w_disp ?_ | refine w_vAnd ?_ | refine w_vOr ?_ | refine w_bAnd ?_ | refine w_bOr ?_ | refine w_bNot ?_ | refine w_bYes ?_ | refine w_isi ?_ | refine w_callL ?_ | refine w_lval ?_ | refine w_lm ?_ | refine w_chn ?_ | refine w_un ?_ | refine w_oNone ?_ | refine w_oSome ?_ | refine w_slc ?_ | refine w_lslc ?_ | refine w_rng ?_ | refine w_vNot ?_ | refine w_vIf ?_ | refine w_cat ?_ | refine w_eqL ?_ | refine w_lenSet ?_ | refine w_app0 ?_ | refine w_extV ?_ | refine w_ext ?_ | refine w_lcallL ?_ | refine w_lcallN ?_ | refine w_sm ?_ | refine w_sm0 ?_ | refine w_lsm ?_ | refine w_smL ?_ | refine w_dic0 ?_ | refine w_dic1 ?_ | refine w_rev ?_ | refine f_ret ?_ | refine f_nx ?_
    | ((with_reducible refine g_keep ?_ ?_ ?_); (focus walk_at "kp"); (focus rfl))
    | (with_reducible refine w_str ?_ ?_; decide +kernel)
    | walk_at "f"
    | with_reducible refine f_body ?_)
  | ((with_reducible show WS _ _); first
    | with_reducible first | refine s_seqN ?_ | refine s_seq ?_ | refine q_nx ?_
    | ((with_reducible apply s_set); (focus walk_at "set"))
    | with_reducible first | refine s_expr ?_ | refine s_ret ?_ | refine s_if ?_ | refine s_nil ?_ | refine q_ret ?_ | refine s_unp ?_ | refine s_sub ?_ | refine s_for ?_ | refine q_cnt ?_ | refine q_brk ?_ | refine q_exc ?_ | refine s_retN ?_ | refine s_cnt ?_ | refine s_brk ?_ | refine s_pass ?_)
  | ((with_reducible show Op _ _); first
    | ((with_reducible apply t_n); (focus walk_at "set"))
    | with_reducible first
      | refine t_cons ?_ | refine t_nil ?_ | refine t_tup ?_ | refine i_tup ?_
      | refine o_lenT ?_
      | refine o_eqS ?_ | refine o_eqI ?_ | refine o_eqB ?_ | refine o_neI ?_ | refine o_neS ?_ | refine o_neB ?_ | refine o_is ?_ | refine o_isNot ?_ | refine o_isT ?_ | refine o_isNT ?_ | refine o_isF ?_ | refine o_isNF ?_
      | refine o_addI ?_ | refine o_sub ?_ | refine o_neg ?_ | refine o_ltI ?_ | refine o_le ?_ | refine o_gt ?_ | refine o_ge ?_ | refine o_iadd ?_
      | refine tr_bl ?_ | refine ty_bl ?_ | refine ty_str ?_ | refine ty_tup ?_ | refine ty_int ?_ | refine o_tupT ?_
      | refine o_lenF ?_ | refine o_lenS ?_ | refine o_intB ?_ | refine o_intI ?_ | refine o_max ?_ | refine o_min ?_ | refine i_str ?_ | refine k_s ?_ | refine k_i ?_
    | ((with_reducible apply o_idxT); (focus first | exact at0 _ _ | exact at1 _ _ _ | exact at2 _ _ _ _ | exact at3 _ _ _ _ _))
    | ((with_reducible apply i_ref); (focus walk_at "sget"))
    | ((with_reducible apply o_getL); (focus walk_at "sget"))
    | ((with_reducible apply o_lenR); (focus walk_at "sget"))
    | ((with_reducible apply o_idxR); (focus walk_at "sget"); (focus first | exact at0 _ _ | exact at1 _ _ _ | exact at2 _ _ _ _))
    | ((with_reducible apply o_tupR); (focus walk_at "sget"))
    | ((with_reducible apply o_listR); (focus walk_at "sget"))
    | ((with_reducible refine o_mod ?_ ?_); (focus omega))
    | ((with_reducible refine o_div ?_ ?_); (focus omega))
    | ((with_reducible refine o_pow ?_ ?_); (focus decide))
    | ((with_reducible refine o_app ?_ ?_); (focus walk_at "len"))
    | walk_at "f")
  | with_reducible first | refine b_is ?_ | refine i_is ?_ | refine s_is ?_ | refine Br.tt ?_ | refine Br.ff ?_ | refine Br.nf ?_ | refine Br.nt ?_ | refine lnew ?_ | refine il_none ?_ | refine il_some ?_ | refine revT ?_ | refine slcT ?_ | refine slcS ?_
  | ((with_reducible refine Br.of_tt ?_ ?_); focus (first | assumption | rfl | exact beq_self_eq_true _ | (simp only [decide_eq_true_eq]; omega)))
  | ((with_reducible refine Br.of_ff ?_ ?_); focus (first | assumption | rfl | (rw [beq_self_eq_true]; rfl) | (simp only [decide_eq_false_iff_not]; omega)))
  | ((with_reducible refine And.intro ?_ ?_); (focus first | ((with_reducible show _ ≤ sizeLine); walk_at "len") | ((with_reducible show lkOk _ _); walk_at "sget")))
  | ((with_reducible refine seek_nx ?_ ?_); (focus rfl); walk_at "off") | ((with_reducible refine seek_cnt ?_ ?_); (focus rfl); walk_at "off") | ((with_reducible refine seek_ret ?_); focus rfl))
local macro_rules | `(tactic| walk_at "b") => `(tactic| with_reducible first | refine b_is ?_ | refine Br.tt ?_ | refine Br.ff ?_ | refine Br.nf ?_ | refine Br.nt ?_ | refine tr_bl ?_)
local macro_rules | `(tactic| walk_at "y") => `(tactic| (fail_if_success (with_reducible refine s_if ?_)); walk_at "x")
local macro_rules | `(tactic| walk_at "f") => `(tactic| with_reducible first | refine w_iEn ?_ | refine w_iZp ?_ | refine zs_two ?_ | refine en_tup ?_ | refine en_frl ?_ | refine z_tup ?_ | refine i_frl ?_ | refine w_revT ?_)
local macro_rules | `(tactic| walk_at "x") => `(tactic| first
  | with_reducible first | refine s_raise1 ?_ | refine s_raise0 ?_ | refine s_try ?_ | refine tq_nx ?_ | refine tq_ret ?_ | refine f_exc ?_ | refine q_offR ?_
  | ((with_reducible refine q_off ?_ ?_); (focus (repeat first | exact OffR.zero | apply OffR.succ))))
/-! Fw136 -/
section
local macro_rules | `(tactic| walk_at "f") => `(tactic| (with_reducible first | refine w_lcallL ?_ | refine w_lcallN ?_ | refine w_orT ?_ | refine w_sortSet ?_ | refine w_iEn ?_))
end
/-! Fw137 -/
end Ev
namespace Ev
open PySem PySem.Spec PyProof.Rows L2
/-! Fw150: instances of own classes: fields, methods, making. -/
section
/-! ### o.f -/
def atF (cs : Cs) (f : Str) (x : PV) (S : Store) : Option PV := match x with
  | .ref j => match S[j]? with
    | some (.ins C fs) => if fldOk cs C f = true then fs.lookup f else none
    | _ => none
  | _ => none
def vAt (cs : Cs) (f : Str) (e : TV) : TV := fun ρ S => (e ρ S).bind fun x S => ofO (atF cs f x S) S
/-! ### o.f = e -/
def sAt (cs : Cs) (f : Str) (o e : TV) : TSt := fun ρ S => (e ρ S).sr ρ fun y S => (o ρ S).sr ρ fun x S => match putAt cs f x y S with
  | some S' => .nx ρ S'
  | none => .bad
def clsOf (x : PV) (S : Store) : Option Str := match x with
  | .ref j => match S[j]? with
    | some (.ins C _) => some C
    | _ => none
  | _ => none
/-- o.f op= e -/
def sAtA (cs : Cs) (f : Str) (g : PV → PV → Store → Option PV) (o e : TV) : TSt := fun ρ S => (o ρ S).sr ρ fun x S1 => match atF cs f x S1 with
  | some z => (e ρ S1).sr ρ fun y S => match g z y S with
    | some w => match putAt cs f x w S with
      | some S' => if clsOf x S = clsOf x S1 then .nx ρ S' else .bad
      | none => .bad
    | none => .bad
  | none => .bad
/-! ### o.m(..), C(..) -/
def isIns (C m : Str) (x : PV) (S : Store) : Bool := match x with
  | .ref j => match S[j]? with
    | some (.ins D fs) => D == C && (fs.lookup m).isNone
    | _ => false
  | _ => false
def vMth (C m : Str) (F : FV) (o : TV) (es : TVs) : TV := fun ρ S => (o ρ S).bind fun x S => if isIns C m x S = true then (es ρ S).bind fun ys S => F (x :: ys) S else .bad
def vMth0 (C m : Str) (F : FV) (o : TV) : TV := fun ρ S => (o ρ S).bind fun x S => if isIns C m x S = true then F [x] S else .bad
def vMake (C : Str) (F : FV) (es : TVs) : TV := fun ρ S => (es ρ S).bind fun ys S => match F (.ref S.length :: ys) (S ++ [.ins C []]) with
  | .ok .non T => .ok (.ref S.length) T
  | _ => .bad
end
/-! Fw151: instances: one step each. -/
section
section
variable {Q : PV → Store → Prop} {QS : SR → Prop} {E : PX → Store → Prop} {ρ : Env'} {S T : Store} {e o : TV} {es : TVs} {cs : Cs} {f : Str} {F : FV} {C m : Str}
theorem w_at (h : W (e ρ S) (fun x S => Op (atF cs f x S) fun v => Q v S) E) : W (vAt cs f e ρ S) Q E := W_bind (W_mono h (fun _ _ h => W_ofO h) fun _ _ h => h)
theorem s_at (q : W (e ρ S) (fun y S => W (o ρ S) (fun x S => Op (putAt cs f x y S) fun S' => QS (.nx ρ S')) fun x S => QS (.exc x ρ S)) fun x S => QS (.exc x ρ S)) : WS (sAt cs f o e ρ S) QS := by
  refine WS_sr (W_mono q (fun y S q => WS_sr (W_mono q (fun x S q => ?_) fun _ _ q => q)) fun _ _ q => q)
  cases hf : putAt cs f x y S with
  | none => rw [hf] at q; exact q.elim
  | some u => rw [hf] at q; exact q
theorem s_atA {g : PV → PV → Store → Option PV} (q : W (o ρ S) (fun x S1 => Op (atF cs f x S1) fun z => W (e ρ S1) (fun y S => Op (g z y S) fun w => Op (putAt cs f x w S) fun S' => clsOf x S = clsOf x S1 ∧ QS (.nx ρ S')) fun x S => QS (.exc x ρ S)) fun x S => QS (.exc x ρ S)) : WS (sAtA cs f g o e ρ S) QS := by
  refine WS_sr (W_mono q (fun x S1 q => ?_) fun _ _ q => q)
  cases h1 : atF cs f x S1 with
  | none => rw [h1] at q; exact q.elim
  | some z =>
    rw [h1] at q
    refine WS_sr (W_mono q (fun y S q => ?_) fun _ _ q => q)
    cases h2 : g z y S with
    | none => rw [h2] at q; exact q.elim
    | some w =>
      rw [h2] at q
      dsimp only
      cases h3 : putAt cs f x w S with
      | none =>
        have q' : Op (putAt cs f x w S) _ := q
        rw [h3] at q'; exact q'.elim
      | some S' =>
        have q' : Op (putAt cs f x w S) _ := q
        rw [h3] at q'
        dsimp only
        rw [if_pos q'.1]; exact q'.2
theorem w_mth (h : W (o ρ S) (fun x S => isIns C m x S = true ∧ W (es ρ S) (fun ys S => W (F (x :: ys) S) Q E) E) E) : W (vMth C m F o es ρ S) Q E := by
  refine W_bind (W_mono h (fun x S h => ?_) fun _ _ h => h)
  rw [if_pos h.1]
  exact W_bind h.2
theorem w_mth0 (h : W (o ρ S) (fun x S => isIns C m x S = true ∧ W (F [x] S) Q E) E) : W (vMth0 C m F o ρ S) Q E := by
  refine W_bind (W_mono h (fun x S h => ?_) fun _ _ h => h)
  rw [if_pos h.1]
  exact h.2
theorem w_make (h : W (es ρ S) (fun ys S => W (F (.ref S.length :: ys) (S ++ [.ins C []])) (fun r T => r = .non ∧ Q (.ref S.length) T) fun _ _ => False) E) : W (vMake C F es ρ S) Q E := by
  refine W_bind (W_mono h (fun ys S h => ?_) fun _ _ h => h)
  cases hf : F (.ref S.length :: ys) (S ++ [.ins C []]) with
  | ok r T =>
    rw [hf] at h
    obtain ⟨rfl, q⟩ := h
    exact q
  | exc e T => rw [hf] at h; exact h.elim
  | bad => rw [hf] at h; exact h.elim
end
end
end Ev
namespace Ev
open PySem PySem.Spec PyProof.Rows L2 SX
local macro_rules | `(tactic| walk_at "w") => `(tactic| first
  | (with_reducible apply s_set; focus (repeat first | exact SetR.zero | apply SetR.succ))
  | (with_reducible apply w_get; focus (repeat first | exact GetR.zero | apply GetR.succ))
  | with_reducible first
  | refine s_seqN ?_ | refine s_seq ?_ | refine q_nx ?_ | refine q_ret ?_ | refine q_brk ?_ | refine q_cnt ?_ | refine q_exc ?_
  | refine s_nil ?_ | refine s_pass ?_ | refine s_brk ?_ | refine s_cnt ?_ | refine s_expr ?_ | refine s_ret ?_ | refine s_retN ?_ | refine s_if ?_ | refine s_unp ?_ | refine s_sub ?_ | refine s_for ?_
  | refine w_c ?_ | (refine w_str ?_ ?_; decide +kernel) | refine w_bin ?_ | refine w_un ?_ | refine w_chn ?_ | refine w_bV ?_ | refine w_bBl ?_ | refine w_bAnd ?_ | refine w_bOr ?_ | refine w_bNot ?_ | refine w_bYes ?_
  | refine w_vAnd ?_ | refine w_vOr ?_ | refine w_vNot ?_ | refine w_vIf ?_ | refine w_nil ?_ | refine w_cons ?_ | refine w_tup ?_ | refine w_disp ?_ | refine w_new ?_ | refine lnew ?_ | refine w_oNone ?_ | refine w_oSome ?_ | refine w_slc ?_ | refine w_lslc ?_ | refine slcT ?_ | refine slcS ?_
  | refine w_call ?_ | refine w_callL ?_ | refine w_lcallL ?_ | refine w_lcallN ?_ | refine w_isi ?_ | refine w_app ?_ | refine w_app0 ?_ | refine w_lval ?_ | refine w_cat ?_ | refine w_eqL ?_ | refine w_lm ?_ | refine w_ext ?_ | refine w_sm ?_ | refine w_sm0 ?_ | refine w_lsm ?_ | refine w_smL ?_ | refine w_dic0 ?_ | refine w_dic1 ?_ | refine w_iV ?_ | refine w_iL ?_ | refine il_none ?_ | refine il_some ?_ | refine w_rng ?_ | refine w_comp ?_ | refine w_rev ?_ | refine w_lenSet ?_ | refine w_extV ?_
  | refine o_addI ?_ | refine o_iadd ?_ | refine o_sub ?_ | refine o_neg ?_ | refine o_ltI ?_ | refine o_le ?_ | refine o_gt ?_ | refine o_ge ?_ | refine o_is ?_ | refine o_isNot ?_ | refine o_lenT ?_ | refine o_lenF ?_ | refine o_lenS ?_ | refine o_intB ?_ | refine o_intI ?_ | refine o_max ?_ | refine o_min ?_ | refine o_tupT ?_ | refine o_eqI ?_ | refine o_eqS ?_ | refine o_eqB ?_
  | refine b_is ?_ | refine i_is ?_ | refine s_is ?_ | refine i_tup ?_ | refine i_str ?_ | refine tr_bl ?_ | refine ty_bl ?_ | refine ty_str ?_ | refine ty_tup ?_ | refine ty_int ?_ | refine k_s ?_ | refine k_i ?_
  | refine Br.tt ?_ | refine Br.ff ?_ | refine Br.nf ?_ | refine Br.nt ?_ | refine f_ret ?_ | refine f_nx ?_ | refine f_body ?_)
local macro_rules | `(tactic| walk_at "sget") => `(tactic| first
  | assumption | exact get_app _ _ _ | exact trivial
  | (refine get_set ?_; walk_at "sget") | (refine get_app_lt ?_; walk_at "sget"))
local macro_rules | `(tactic| walk_at "len") => `(tactic| first
  | exact Nat.zero_le _ | exact len_le rfl
  | (have hbig := sizeLine_eq; simp only [List.length_map, List.length_cons, List.length_nil, List.length_append, List.length_take, List.length_drop, List.length_reverse, List.length_set, List.length_range]; omega))
local macro_rules | `(tactic| walk_at "off") => `(tactic| focus rfl)
local macro_rules | `(tactic| walk_at "e") => `(tactic| simp only [wipeE, reset, List.foldl_cons, List.foldl_nil, List.set_cons_succ, List.set_cons_zero])
local macro_rules | `(tactic| walk_at "kp") => `(tactic| first | assumption | exact Kp.refl _ | exact Kp.app _ _ | (refine Kp.trans ?_ (Kp.app _ _); walk_at "kp"))
local macro_rules | `(tactic| walk_at "set") => `(tactic| first | exact setR0 | exact setR1 | exact setR2 | exact setR3 | exact setR4 | exact setR5 | exact setR6 | exact setR7 | exact setR8 | exact setR9 | exact setR10 | exact setR11 | exact setR12 | (repeat first | exact SetR.zero | apply SetR.succ))
local macro_rules | `(tactic| walk_at "f") => `(tactic| fail)
local macro_rules | `(tactic| walk_at "x") => `(tactic| first
  | ((with_reducible show W _ _ _); first
    | ((with_reducible apply w_var); (focus exact rfl))
    | with_reducible first | refine w_c ?_ | refine w_cons ?_ | refine w_nil ?_ | refine w_bin ?_ | refine w_app ?_ | refine w_call ?_ | refine w_tup ?_ | refine w_bBl ?_ | refine w_new ?_ | refine w_iV ?_ | refine w_comp ?_ | refine w_iL ?_ | refine w_bV ?_ | refine w_disp ?_ | refine w_vAnd ?_ | refine w_vOr ?_ | refine w_bAnd ?_ | refine w_bOr ?_ | refine w_bNot ?_ | refine w_bYes ?_ | refine w_isi ?_ | refine w_callL ?_ | refine w_lval ?_ | refine w_lm ?_ | refine w_chn ?_ | refine w_un ?_ | refine w_oNone ?_ | refine w_oSome ?_ | refine w_slc ?_ | refine w_lslc ?_ | refine w_rng ?_ | refine w_vNot ?_ | refine w_vIf ?_ | refine w_cat ?_ | refine w_eqL ?_ | refine w_lenSet ?_ | refine w_app0 ?_ | refine w_extV ?_ | refine w_ext ?_ | refine w_lcallL ?_ | refine w_lcallN ?_ | refine w_sm ?_ | refine w_sm0 ?_ | refine w_lsm ?_ | refine w_smL ?_ | refine w_dic0 ?_ | refine w_dic1 ?_ | refine w_rev ?_ | refine f_ret ?_ | refine f_nx ?_
    | ((with_reducible refine g_keep ?_ ?_ ?_); (focus walk_at "kp"); (focus rfl))
    | (with_reducible refine w_str ?_ ?_; decide +kernel)
    | walk_at "f"
    | with_reducible refine f_body ?_)
  | ((with_reducible show WS _ _); first
    | with_reducible first | refine s_seqN ?_ | refine s_seq ?_ | refine q_nx ?_
    | ((with_reducible apply s_set); (focus walk_at "set"))
    | with_reducible first | refine s_expr ?_ | refine s_ret ?_ | refine s_if ?_ | refine s_nil ?_ | refine q_ret ?_ | refine s_unp ?_ | refine s_sub ?_ | refine s_for ?_ | refine q_cnt ?_ | refine q_brk ?_ | refine q_exc ?_ | refine s_retN ?_ | refine s_cnt ?_ | refine s_brk ?_ | refine s_pass ?_)
  | ((with_reducible show Op _ _); first
    | ((with_reducible apply t_n); (focus walk_at "set"))
    | with_reducible first
      | refine t_cons ?_ | refine t_nil ?_ | refine t_tup ?_ | refine i_tup ?_
      | refine o_lenT ?_
      | refine o_eqS ?_ | refine o_eqI ?_ | refine o_eqB ?_ | refine o_neI ?_ | refine o_neS ?_ | refine o_neB ?_ | refine o_is ?_ | refine o_isNot ?_ | refine o_isT ?_ | refine o_isNT ?_ | refine o_isF ?_ | refine o_isNF ?_
      | refine o_addI ?_ | refine o_sub ?_ | refine o_neg ?_ | refine o_ltI ?_ | refine o_le ?_ | refine o_gt ?_ | refine o_ge ?_ | refine o_iadd ?_
      | refine tr_bl ?_ | refine ty_bl ?_ | refine ty_str ?_ | refine ty_tup ?_ | refine ty_int ?_ | refine o_tupT ?_
      | refine o_lenF ?_ | refine o_lenS ?_ | refine o_intB ?_ | refine o_intI ?_ | refine o_max ?_ | refine o_min ?_ | refine i_str ?_ | refine k_s ?_ | refine k_i ?_
    | ((with_reducible apply o_idxT); (focus first | exact at0 _ _ | exact at1 _ _ _ | exact at2 _ _ _ _ | exact at3 _ _ _ _ _))
    | ((with_reducible apply i_ref); (focus walk_at "sget"))
    | ((with_reducible apply o_getL); (focus walk_at "sget"))
    | ((with_reducible apply o_lenR); (focus walk_at "sget"))
    | ((with_reducible apply o_idxR); (focus walk_at "sget"); (focus first | exact at0 _ _ | exact at1 _ _ _ | exact at2 _ _ _ _))
    | ((with_reducible apply o_tupR); (focus walk_at "sget"))
    | ((with_reducible apply o_listR); (focus walk_at "sget"))
    | ((with_reducible refine o_mod ?_ ?_); (focus omega))
    | ((with_reducible refine o_div ?_ ?_); (focus omega))
    | ((with_reducible refine o_pow ?_ ?_); (focus decide))
    | ((with_reducible refine o_app ?_ ?_); (focus walk_at "len"))
    | walk_at "f")
  | with_reducible first | refine b_is ?_ | refine i_is ?_ | refine s_is ?_ | refine Br.tt ?_ | refine Br.ff ?_ | refine Br.nf ?_ | refine Br.nt ?_ | refine lnew ?_ | refine il_none ?_ | refine il_some ?_ | refine revT ?_ | refine slcT ?_ | refine slcS ?_
  | ((with_reducible refine Br.of_tt ?_ ?_); focus (first | assumption | rfl | exact beq_self_eq_true _ | (simp only [decide_eq_true_eq]; omega)))
  | ((with_reducible refine Br.of_ff ?_ ?_); focus (first | assumption | rfl | (rw [beq_self_eq_true]; rfl) | (simp only [decide_eq_false_iff_not]; omega)))
  | ((with_reducible refine And.intro ?_ ?_); (focus first | ((with_reducible show _ ≤ sizeLine); walk_at "len") | ((with_reducible show lkOk _ _); walk_at "sget")))
  | ((with_reducible refine seek_nx ?_ ?_); (focus rfl); walk_at "off") | ((with_reducible refine seek_cnt ?_ ?_); (focus rfl); walk_at "off") | ((with_reducible refine seek_ret ?_); focus rfl))
local macro_rules | `(tactic| walk_at "b") => `(tactic| with_reducible first | refine b_is ?_ | refine Br.tt ?_ | refine Br.ff ?_ | refine Br.nf ?_ | refine Br.nt ?_ | refine tr_bl ?_)
local macro_rules | `(tactic| walk_at "y") => `(tactic| (fail_if_success (with_reducible refine s_if ?_)); walk_at "x")
local macro_rules | `(tactic| walk_at "f") => `(tactic| with_reducible first | refine w_iEn ?_ | refine w_iZp ?_ | refine zs_two ?_ | refine en_tup ?_ | refine en_frl ?_ | refine z_tup ?_ | refine i_frl ?_ | refine w_revT ?_)
local macro_rules | `(tactic| walk_at "x") => `(tactic| first
  | with_reducible first | refine s_raise1 ?_ | refine s_raise0 ?_ | refine s_try ?_ | refine tq_nx ?_ | refine tq_ret ?_ | refine f_exc ?_ | refine q_offR ?_
  | ((with_reducible refine q_off ?_ ?_); (focus (repeat first | exact OffR.zero | apply OffR.succ))))
/-! Fw152: texts of kinds of up to eight deeds in a state. -/
section
local macro_rules | `(tactic| walk_at "f") => `(tactic| ((with_reducible apply o_idxR); (focus walk_at "sget"); (focus first | exact atI_nat (j := 0) rfl | exact atI_nat (j := 1) rfl | exact atI_nat (j := 2) rfl | exact atI_nat (j := 3) rfl | exact atI_nat (j := 4) rfl | exact atI_nat (j := 5) rfl)))
end
/-! Fw153: the words of a kind's text, taken one by one. -/
section
local macro_rules | `(tactic| walk_at "f") => `(tactic| (with_reducible first | refine w_lcallL ?_ | refine w_lcallN ?_ | refine w_at ?_ | refine s_at ?_ | refine s_atA ?_ | refine w_mth0 ?_ | refine w_mth ?_ | refine w_make ?_))
local macro_rules | `(tactic| walk_at "x") => `(tactic| (with_reducible first | refine s_at ?_ | refine s_atA ?_))
section
variable {Q : PV → Store → Prop} {E : PX → Store → Prop} {S S0 T : Store}
end
end
end Ev
namespace Ev
open PySem PySem.Spec PyProof.Rows L2
/-! Fw154: isinstance with two types; words put together and taken apart. -/
section
/-! ### isinstance with two types -/
def vIsi2 (T U : String) (a : TV) : TV := fun ρ S => (a ρ S).bind fun x S => ofO ((tyN S x).map fun t => .bl (isI t T || isI t U)) S
/-! ### words put together and taken apart -/
section
variable {Q : PV → Store → Prop} {E : PX → Store → Prop} {ρ : Env'} {S : Store} {a : TV}
theorem w_isi2 {T U : String} (h : W (a ρ S) (fun x S => Op (tyN S x) fun t => Q (.bl (isI t T || isI t U)) S) E) : W (vIsi2 T U a ρ S) Q E := by
  refine W_bind (W_mono h (fun x S h => ?_) fun _ _ h => h)
  cases ht : tyN S x with
  | none => rw [ht] at h; exact h.elim
  | some t => rw [ht] at h; exact h
end
end
end Ev
namespace Ev
open PySem PySem.Spec PyProof.Rows L2 SX
local macro_rules | `(tactic| walk_at "w") => `(tactic| first
  | (with_reducible apply s_set; focus (repeat first | exact SetR.zero | apply SetR.succ))
  | (with_reducible apply w_get; focus (repeat first | exact GetR.zero | apply GetR.succ))
  | with_reducible first
  | refine s_seqN ?_ | refine s_seq ?_ | refine q_nx ?_ | refine q_ret ?_ | refine q_brk ?_ | refine q_cnt ?_ | refine q_exc ?_
  | refine s_nil ?_ | refine s_pass ?_ | refine s_brk ?_ | refine s_cnt ?_ | refine s_expr ?_ | refine s_ret ?_ | refine s_retN ?_ | refine s_if ?_ | refine s_unp ?_ | refine s_sub ?_ | refine s_for ?_
  | refine w_c ?_ | (refine w_str ?_ ?_; decide +kernel) | refine w_bin ?_ | refine w_un ?_ | refine w_chn ?_ | refine w_bV ?_ | refine w_bBl ?_ | refine w_bAnd ?_ | refine w_bOr ?_ | refine w_bNot ?_ | refine w_bYes ?_
  | refine w_vAnd ?_ | refine w_vOr ?_ | refine w_vNot ?_ | refine w_vIf ?_ | refine w_nil ?_ | refine w_cons ?_ | refine w_tup ?_ | refine w_disp ?_ | refine w_new ?_ | refine lnew ?_ | refine w_oNone ?_ | refine w_oSome ?_ | refine w_slc ?_ | refine w_lslc ?_ | refine slcT ?_ | refine slcS ?_
  | refine w_call ?_ | refine w_callL ?_ | refine w_lcallL ?_ | refine w_lcallN ?_ | refine w_isi ?_ | refine w_app ?_ | refine w_app0 ?_ | refine w_lval ?_ | refine w_cat ?_ | refine w_eqL ?_ | refine w_lm ?_ | refine w_ext ?_ | refine w_sm ?_ | refine w_sm0 ?_ | refine w_lsm ?_ | refine w_smL ?_ | refine w_dic0 ?_ | refine w_dic1 ?_ | refine w_iV ?_ | refine w_iL ?_ | refine il_none ?_ | refine il_some ?_ | refine w_rng ?_ | refine w_comp ?_ | refine w_rev ?_ | refine w_lenSet ?_ | refine w_extV ?_
  | refine o_addI ?_ | refine o_iadd ?_ | refine o_sub ?_ | refine o_neg ?_ | refine o_ltI ?_ | refine o_le ?_ | refine o_gt ?_ | refine o_ge ?_ | refine o_is ?_ | refine o_isNot ?_ | refine o_lenT ?_ | refine o_lenF ?_ | refine o_lenS ?_ | refine o_intB ?_ | refine o_intI ?_ | refine o_max ?_ | refine o_min ?_ | refine o_tupT ?_ | refine o_eqI ?_ | refine o_eqS ?_ | refine o_eqB ?_
  | refine b_is ?_ | refine i_is ?_ | refine s_is ?_ | refine i_tup ?_ | refine i_str ?_ | refine tr_bl ?_ | refine ty_bl ?_ | refine ty_str ?_ | refine ty_tup ?_ | refine ty_int ?_ | refine k_s ?_ | refine k_i ?_
  | refine Br.tt ?_ | refine Br.ff ?_ | refine Br.nf ?_ | refine Br.nt ?_ | refine f_ret ?_ | refine f_nx ?_ | refine f_body ?_)
local macro_rules | `(tactic| walk_at "sget") => `(tactic| first
  | assumption | exact get_app _ _ _ | exact trivial
  | (refine get_set ?_; walk_at "sget") | (refine get_app_lt ?_; walk_at "sget"))
local macro_rules | `(tactic| walk_at "len") => `(tactic| first
  | exact Nat.zero_le _ | exact len_le rfl
  | (have hbig := sizeLine_eq; simp only [List.length_map, List.length_cons, List.length_nil, List.length_append, List.length_take, List.length_drop, List.length_reverse, List.length_set, List.length_range]; omega))
local macro_rules | `(tactic| walk_at "off") => `(tactic| focus rfl)
local macro_rules | `(tactic| walk_at "e") => `(tactic| simp only [wipeE, reset, List.foldl_cons, List.foldl_nil, List.set_cons_succ, List.set_cons_zero])
local macro_rules | `(tactic| walk_at "kp") => `(tactic| first | assumption | exact Kp.refl _ | exact Kp.app _ _ | (refine Kp.trans ?_ (Kp.app _ _); walk_at "kp"))
local macro_rules | `(tactic| walk_at "set") => `(tactic| first | exact setR0 | exact setR1 | exact setR2 | exact setR3 | exact setR4 | exact setR5 | exact setR6 | exact setR7 | exact setR8 | exact setR9 | exact setR10 | exact setR11 | exact setR12 | (repeat first | exact SetR.zero | apply SetR.succ))
local macro_rules | `(tactic| walk_at "f") => `(tactic| fail)
local macro_rules | `(tactic| walk_at "x") => `(tactic| first
  | ((with_reducible show W _ _ _); first
    | ((with_reducible apply w_var); (focus exact rfl))
    | with_reducible first | refine w_c ?_ | refine w_cons ?_ | refine w_nil ?_ | refine w_bin ?_ | refine w_app ?_ | refine w_call ?_ | refine w_tup ?_ | refine w_bBl ?_ | refine w_new ?_ | refine w_iV ?_ | refine w_comp ?_ | refine w_iL ?_ | refine w_bV ?_ | refine w_disp ?_ | refine w_vAnd ?_ | refine w_vOr ?_ | refine w_bAnd ?_ | refine w_bOr ?_ | refine w_bNot ?_ | refine w_bYes ?_ | refine w_isi ?_ | refine w_callL ?_ | refine w_lval ?_ | refine w_lm ?_ | refine w_chn ?_ | refine w_un ?_ | refine w_oNone ?_ | refine w_oSome ?_ | refine w_slc ?_ | refine w_lslc ?_ | refine w_rng ?_ | refine w_vNot ?_ | refine w_vIf ?_ | refine w_cat ?_ | refine w_eqL ?_ | refine w_lenSet ?_ | refine w_app0 ?_ | refine w_extV ?_ | refine w_ext ?_ | refine w_lcallL ?_ | refine w_lcallN ?_ | refine w_sm ?_ | refine w_sm0 ?_ | refine w_lsm ?_ | refine w_smL ?_ | refine w_dic0 ?_ | refine w_dic1 ?_ | refine w_rev ?_ | refine f_ret ?_ | refine f_nx ?_
    | ((with_reducible refine g_keep ?_ ?_ ?_); (focus walk_at "kp"); (focus rfl))
    | (with_reducible refine w_str ?_ ?_; decide +kernel)
    | walk_at "f"
    | with_reducible refine f_body ?_)
  | ((with_reducible show WS _ _); first
    | with_reducible first | refine s_seqN ?_ | refine s_seq ?_ | refine q_nx ?_
    | ((with_reducible apply s_set); (focus walk_at "set"))
    | with_reducible first | refine s_expr ?_ | refine s_ret ?_ | refine s_if ?_ | refine s_nil ?_ | refine q_ret ?_ | refine s_unp ?_ | refine s_sub ?_ | refine s_for ?_ | refine q_cnt ?_ | refine q_brk ?_ | refine q_exc ?_ | refine s_retN ?_ | refine s_cnt ?_ | refine s_brk ?_ | refine s_pass ?_)
  | ((with_reducible show Op _ _); first
    | ((with_reducible apply t_n); (focus walk_at "set"))
    | with_reducible first
      | refine t_cons ?_ | refine t_nil ?_ | refine t_tup ?_ | refine i_tup ?_
      | refine o_lenT ?_
      | refine o_eqS ?_ | refine o_eqI ?_ | refine o_eqB ?_ | refine o_neI ?_ | refine o_neS ?_ | refine o_neB ?_ | refine o_is ?_ | refine o_isNot ?_ | refine o_isT ?_ | refine o_isNT ?_ | refine o_isF ?_ | refine o_isNF ?_
      | refine o_addI ?_ | refine o_sub ?_ | refine o_neg ?_ | refine o_ltI ?_ | refine o_le ?_ | refine o_gt ?_ | refine o_ge ?_ | refine o_iadd ?_
      | refine tr_bl ?_ | refine ty_bl ?_ | refine ty_str ?_ | refine ty_tup ?_ | refine ty_int ?_ | refine o_tupT ?_
      | refine o_lenF ?_ | refine o_lenS ?_ | refine o_intB ?_ | refine o_intI ?_ | refine o_max ?_ | refine o_min ?_ | refine i_str ?_ | refine k_s ?_ | refine k_i ?_
    | ((with_reducible apply o_idxT); (focus first | exact at0 _ _ | exact at1 _ _ _ | exact at2 _ _ _ _ | exact at3 _ _ _ _ _))
    | ((with_reducible apply i_ref); (focus walk_at "sget"))
    | ((with_reducible apply o_getL); (focus walk_at "sget"))
    | ((with_reducible apply o_lenR); (focus walk_at "sget"))
    | ((with_reducible apply o_idxR); (focus walk_at "sget"); (focus first | exact at0 _ _ | exact at1 _ _ _ | exact at2 _ _ _ _))
    | ((with_reducible apply o_tupR); (focus walk_at "sget"))
    | ((with_reducible apply o_listR); (focus walk_at "sget"))
    | ((with_reducible refine o_mod ?_ ?_); (focus omega))
    | ((with_reducible refine o_div ?_ ?_); (focus omega))
    | ((with_reducible refine o_pow ?_ ?_); (focus decide))
    | ((with_reducible refine o_app ?_ ?_); (focus walk_at "len"))
    | walk_at "f")
  | with_reducible first | refine b_is ?_ | refine i_is ?_ | refine s_is ?_ | refine Br.tt ?_ | refine Br.ff ?_ | refine Br.nf ?_ | refine Br.nt ?_ | refine lnew ?_ | refine il_none ?_ | refine il_some ?_ | refine revT ?_ | refine slcT ?_ | refine slcS ?_
  | ((with_reducible refine Br.of_tt ?_ ?_); focus (first | assumption | rfl | exact beq_self_eq_true _ | (simp only [decide_eq_true_eq]; omega)))
  | ((with_reducible refine Br.of_ff ?_ ?_); focus (first | assumption | rfl | (rw [beq_self_eq_true]; rfl) | (simp only [decide_eq_false_iff_not]; omega)))
  | ((with_reducible refine And.intro ?_ ?_); (focus first | ((with_reducible show _ ≤ sizeLine); walk_at "len") | ((with_reducible show lkOk _ _); walk_at "sget")))
  | ((with_reducible refine seek_nx ?_ ?_); (focus rfl); walk_at "off") | ((with_reducible refine seek_cnt ?_ ?_); (focus rfl); walk_at "off") | ((with_reducible refine seek_ret ?_); focus rfl))
local macro_rules | `(tactic| walk_at "b") => `(tactic| with_reducible first | refine b_is ?_ | refine Br.tt ?_ | refine Br.ff ?_ | refine Br.nf ?_ | refine Br.nt ?_ | refine tr_bl ?_)
local macro_rules | `(tactic| walk_at "y") => `(tactic| (fail_if_success (with_reducible refine s_if ?_)); walk_at "x")
local macro_rules | `(tactic| walk_at "f") => `(tactic| with_reducible first | refine w_iEn ?_ | refine w_iZp ?_ | refine zs_two ?_ | refine en_tup ?_ | refine en_frl ?_ | refine z_tup ?_ | refine i_frl ?_ | refine w_revT ?_)
local macro_rules | `(tactic| walk_at "x") => `(tactic| first
  | with_reducible first | refine s_raise1 ?_ | refine s_raise0 ?_ | refine s_try ?_ | refine tq_nx ?_ | refine tq_ret ?_ | refine f_exc ?_ | refine q_offR ?_
  | ((with_reducible refine q_off ?_ ?_); (focus (repeat first | exact OffR.zero | apply OffR.succ))))
/-! Fw155: a kind's text read. -/
section
local macro_rules | `(tactic| walk_at "f") => `(tactic| (with_reducible first | refine w_lcallL ?_ | refine w_lcallN ?_ | refine w_at ?_ | refine w_mth0 ?_ | refine w_mth ?_ | refine w_make ?_ | refine w_isi2 ?_))
local macro_rules | `(tactic| walk_at "x") => `(tactic| (with_reducible first | refine s_at ?_ | refine s_atA ?_))
section
variable {Q : PV → Store → Prop} {E : PX → Store → Prop} {S S0 T : Store}
end
end
/-! Fw156: states and kinds read. -/
/-! Fw157: kinds read. -/
/-! Fw158: the law's words of a kind. -/
/-! Fw159: the same, by kinds of values. -/
/-! Fw160: the case, the great kind. -/
/-! Fw161: the great kind. -/
section
local macro_rules | `(tactic| walk_at "f") => `(tactic| (with_reducible first | refine w_lcallL ?_ | refine w_lcallN ?_ | refine w_at ?_ | refine w_mth0 ?_ | refine w_mth ?_ | refine w_make ?_ | refine w_isi2 ?_ | refine w_iZp ?_))
local macro_rules | `(tactic| walk_at "x") => `(tactic| (with_reducible first | refine s_at ?_ | refine s_atA ?_))
/-! ### the great kind in plain lists -/
section
variable (nn : List Str) (t : Nat)
def nAt (m : Nat) : Str := nn.getD m Str.empty
def gThere (m : Nat) : Option Str := if m < 8 then some (nAt nn m) else none
def gO (k j i : Nat) : Out := (nAt nn (i + 6), gThere nn ((t + k * j + i) % 9), if (k + i) % 2 = 0 then none else some (nAt nn i))
def gD (k j : Nat) : Deed := (nAt nn (j + 4), (List.range 6).map (gO nn t k j))
variable {nn : List Str} {t : Nat}
end
end
/-! Fw162: the great kind made. -/
/-! Fw163: the great kind, whole. -/
/-! Fw164: the law. -/
end Ev
namespace Ev
open PySem PySem.Spec PyProof.Rows L2
/-! Fw173: dicts: d[k], d.get(k, x), dict(zip(a, b)). -/
section
theorem dicAt_ok {K : PySem.W.Frag} {cm : CM} {μ : List Addr} {S : Store} {H : Hp} {j : Nat} {a : Addr} {kvs : List (Key × PV)} (R : RS K cm μ S H) (hj : μ[j]? = some a) (h : dicAt S j = some kvs) : ∃ kv, Rd H a (.dK kv) ∧ kvs.length ≤ sizeLine ∧ RKs K μ H kvs kv := by
  unfold dicAt at h
  cases hS : S[j]? with
  | none => rw [hS] at h; cases h
  | some ob =>
    rw [hS] at h
    cases ob with
    | dic kvs' =>
      cases h
      obtain ⟨vs, e1, l, r⟩ := R.ob j a _ hj hS
      exact ⟨vs, .inl e1, l, r⟩
    | dicW kvs' =>
      cases h
      obtain ⟨o, vs, e1, l, r⟩ := R.ob j a _ hj hS
      exact ⟨vs, .inr ⟨o, e1⟩, l, r⟩
    | _ => cases h
theorem dget_rd {H : Hp} {a : Addr} {kvs : List (Key × V)} {k : Key} (e : Rd H a (.dK kvs)) : DGet H a (kV k) (valV kvs k) := .inl ⟨kvs, k, e, rfl, rfl⟩
theorem dic_at {S : Store} {j : Nat} {kvs : List (Key × PV)} (g : S[j]? = some (.dic kvs)) : dicAt S j = some kvs := by unfold dicAt; rw [g]
/-! ### d[k] -/
theorem key_V {K : PySem.W.Frag} {μ : List Addr} {H : Hp} {i : PV} {y : V} {k : Key} (h : keyOf i = some k) (r : RV K μ H i y) : y = kV k := by
  cases r <;> simp [keyOf] at h <;> subst h <;> rfl
section
variable {X : Cx} {W : WX} {a b c d : Expr} {ea eb ec : TV} {pos apos cpos : Pos}
theorem os_didx (hu : X.A.units + 1 < cLine) : IxR X (rO X.K (cmX X) oDIdx) := by
  intro value slice pins s σ H x y v u Q I rx ry h hs
  obtain ⟨μ, S, p, i, z, R, ra, rb, hf, q⟩ := h
  cases ra with
  | @ref j ad hj =>
    simp only [oDIdx] at hf
    cases hk : keyOf i with
    | none => rw [hk] at hf; cases hf
    | some k =>
      rw [hk] at hf
      dsimp only at hf
      cases e : dicAt S j with
      | none => rw [e] at hf; cases hf
      | some kvs =>
        rw [e] at hf
        dsimp only at hf
        obtain ⟨vs, e1, l, r⟩ := dicAt_ok R hj e
        have ey := key_V hk rb
        subst ey
        cases rx
        rcases r.val k with ⟨h1, _⟩ | ⟨x', w, h1, h2, rw'⟩
        · rw [h1] at hf; cases hf
        · rw [h1] at hf
          cases hf
          have g : DGet H ad (kV k) (some w) := h2 ▸ dget_rd e1
          exact tail_any (dict_typeIs I g) PySem.F.slot_dict_getitem.lookup (d_getItem hu I g ry fun w' s3 I3 rw3 => ⟨w, H, I3, rw3, q H _ Ext.refl R rw'⟩) hs
  | _ => simp [oDIdx] at hf
theorem sv_didx (hu : X.A.units + 1 < cLine) (ha : PE X a (E_ X W ea)) (hb : PE X b (E_ X W eb)) (hs : PlainIx b) : PE X (.Subscript a b pos) (E_ X W (vBin oDIdx ea eb)) :=
  PE.imp (pe_ix (os_didx hu) ha hb hs) fun _ _ _ h => vBin_imp h
/-! ### d.get(k, x); k may be None -/
theorem d_get2None {pins : List (Addr × Obj)} {σ : L2.St} {H : Hp} {s : Shared} {a : Addr} {kvs : List (Key × V)} {r : Value} {A : Around} {E : Value → Shared → Prop} {Q : Value → Shared → Prop} (I : Inv X pins σ H s) (e : Rd H a (.dK kvs)) (h : ∀ s', Inv X pins σ H s' → Q r s') :
    wpAny (model X.prog X.w) A (call (.builtin "dict.get") [.ref a, .none, r]) Q E s := by
  obtain ⟨z, hd, vs, rel, dd⟩ := dk_rd I.hok e
  obtain ⟨f, hm, hf⟩ := none_map dd
  refine call_meetsIn PySem.F.slot_dict_get dd.typeIs PySem.F.entry_dict_get (PySem.F.args_dict_get_3 _ _ _) (meets_dict_get_default (noneKind X.prog X.w) a (show (noneKind X.prog X.w).is none .none = true from rfl) hd r) ⟨_, hm, ?_⟩
  rw [hf]
  exact h _ (I.tok _)
def tDGet2N (td ty tx : TE) : TE := fun σ H Q => td σ H fun x H1 => ∃ a, x = .ref a ∧ IsD H1 a ∧ ty σ H1 fun y H2 => tx σ H2 fun z H3 => (∃ o, DGet H3 a y o ∧ Q (o.getD z) H3) ∨ ∃ kvs, y = .non ∧ Rd H3 a (.dK kvs) ∧ Q z H3
theorem pe_dget2N {o e f : Expr} {td ty tx : TE} (hu : X.A.units + 1 < cLine) (ho : PE X o td) (he : PE X e ty) (hf : PE X f tx) (m : M2 X o "get" apos e f cpos) : PE X (.Call (.Attribute o "get" apos) [e, f] [] cpos) (tDGet2N td ty tx) := by
  refine ⟨fun pins s σ H Q I h => ?_⟩
  refine wpAny_Call_method m.base m.few m.line PySem.F.plainAttrs_dict PySem.F.slot_dict_get PySem.F.type_dict_get (thn (ho.run pins s σ H _ I h) fun u s1 ⟨x, H1, I1, rx, a, ex, d, q1⟩ => ?_)
  subst ex
  obtain rfl : u = Value.ref a := rx
  obtain ⟨t1, t2, _⟩ := isD_at I1 d
  refine ⟨t1, t2, ?_⟩
  rw [m.trees]
  refine Calls.callWith_builtin rfl (Calls.evalArgs_plain (Calls.spliced_cons (thn (he.run pins s1 σ H1 _ I1 q1) fun iv s2 ⟨y, H2, I2, ry, q2⟩ =>
    Calls.spliced_cons (thn (hf.run pins s2 σ H2 _ I2 q2) fun fv s3 ⟨z, H3, I3, rz, q3⟩ => Calls.spliced_nil ?_))))
  rcases q3 with ⟨ov, g, q3⟩ | ⟨kvs, ey, g, q3⟩
  · exact d_get2 hu I3 g ry rz fun w' s4 I4 rw' => ⟨_, H3, I4, rw', q3⟩
  · subst ey
    obtain rfl : iv = Value.none := ry
    exact d_get2None I3 g fun s4 I4 => ⟨_, H3, I4, rz, q3⟩
theorem sv_dget2 {o e f : Expr} {vo vk vz : TV} (hu : X.A.units + 1 < cLine) (ho : PE X o (E_ X W vo)) (he : PE X e (E_ X W vk)) (hf : PE X f (E_ X W vz)) (m : M2 X o "get" apos e f cpos) : PE X (.Call (.Attribute o "get" apos) [e, f] [] cpos) (E_ X W (vDGet2 vo vk vz)) := by
  refine PE.imp (pe_dget2N hu ho he hf m) fun σ H Q h => ?_
  obtain ⟨μ, S, ρ, R, E, p⟩ := h
  refine ⟨μ, S, ρ, R, E, Post.step (P := fun μ H r => Post X.K (cmX X) μ H r Q (atσ W σ)) p (fun _ _ h => h) (fun h => h) fun x S1 μ1 H1 v E1 R1 rv p => ?_⟩
  cases rv with
  | @ref j a hj =>
    dsimp only at p
    cases hS : dicAt S1 j with
    | none => rw [hS] at p; exact p.elim
    | some kvs0 =>
      rw [hS] at p
      dsimp only at p
      obtain ⟨vs0, e0, _, _⟩ := dicAt_ok R1 hj hS
      refine ⟨a, rfl, .inl ⟨vs0, e0⟩, μ1, S1, ρ, R1, E.mono R E1, Post.step (P := fun μ H r => Post X.K (cmX X) μ H r Q (atσ W σ)) (p.ext E1) (fun _ _ h => h) (fun h => h) fun y S2 μ2 H2 w E2 R2 rw2 p => ?_⟩
      refine ⟨μ2, S2, ρ, R2, (E.mono R E1).mono R1 E2, Post.step (P := fun μ H r => Post X.K (cmX X) μ H r Q (atσ W σ)) (p.ext E2) (fun _ _ h => h) (fun h => h) fun u S3 μ3 H3 t E3 R3 rt p => ?_⟩
      have hj3 : μ3[j]? = some a := E3.pre j a (E2.pre j a hj)
      have rw3 := rw2.mono R2 E3
      have p := p.ext E3
      unfold dget at p
      cases hS3 : dicAt S3 j with
      | none => rw [hS3] at p; exact p.elim
      | some kvs =>
        rw [hS3] at p
        dsimp only at p
        obtain ⟨vs, e1, _, r⟩ := dicAt_ok R3 hj3 hS3
        have fin : ∀ k, keyOf y = some k → Post X.K (cmX X) μ3 H3 (.ok ((valP kvs k).getD u) S3) Q (atσ W σ) → (∃ o, DGet H3 a w o ∧ Q (o.getD t) H3) := fun k hk p => by
          have ey := key_V hk rw3
          subst ey
          rcases r.val k with ⟨h1, h2⟩ | ⟨x', v', h1, h2, rv'⟩
          · rw [h1] at p
            exact ⟨none, h2 ▸ dget_rd e1, p _ _ _ Ext.refl R3 rt⟩
          · rw [h1] at p
            exact ⟨some v', h2 ▸ dget_rd e1, p _ _ _ Ext.refl R3 rv'⟩
        cases y with
        | non =>
          cases rw3
          exact .inr ⟨vs, rfl, e1, p _ _ _ Ext.refl R3 rt⟩
        | int i => exact .inl (fin (.inl i) rfl p)
        | str z => exact .inl (fin (.inr z) rfl p)
        | _ => exact p.elim
  | _ => exact p.elim
end
end
/-! Fw174: dict(zip(a, b)). -/
section
theorem rks_merge {K : PySem.W.Frag} {μ : List Addr} {H : Hp} {more : List (Key × PV)} {vs : List (Key × V)} (r : RKs K μ H more vs) : ∀ {acc : List (Key × PV)} {ws : List (Key × V)}, RKs K μ H acc ws → RKs K μ H (mergeP acc more) (mergeK ws vs) := by
  induction r with
  | nil => exact fun h => h
  | @cons p q _ _ h t ih =>
    intro acc ws ha
    show RKs K μ H (mergeP (putP acc p.1 p.2) _) (mergeK (putK ws q.1 q.2) _)
    rw [← h.1]
    exact ih (ha.putP p.1 h.2)
theorem length_mergeP : ∀ (more acc : List (Key × PV)), (mergeP acc more).length ≤ acc.length + more.length
  | [], acc => Nat.le_refl _
  | p :: more, acc => by
    have h1 := length_mergeP more (putP acc p.1 p.2)
    have h2 := length_putP acc p.1 p.2
    show (mergeP (putP acc p.1 p.2) more).length ≤ _
    rw [List.length_cons]
    omega
end
end Ev
namespace Ev
open PySem PySem.Spec PyProof.Rows L2 SX
/-! Fw175: dicts: the walk; names called otherwise. -/
section
section
variable {Q : PV → Store → Prop} {E : PX → Store → Prop} {ρ : Env'} {S T : Store} {a b d k z : TV} {P : PV → Prop}
theorem o_didx {j : Nat} {kvs : List (Key × PV)} {i : PV} {key : Key} {y : PV} (g : S[j]? = some (.dic kvs)) (hk : keyOf i = some key) (h : valP kvs key = some y) (q : P y) : Op (oDIdx (.ref j) i S) P := by
  refine Op.of (x := y) ?_ q
  unfold oDIdx
  rw [hk]
  dsimp only
  rw [dic_at g]
  exact h
theorem o_didxA {j : Nat} {kvs : List (Key × PV)} {i : PV} {key : Key} {y : PV} (g : dicAt S j = some kvs) (hk : keyOf i = some key) (h : valP kvs key = some y) (q : P y) : Op (oDIdx (.ref j) i S) P := by
  refine Op.of (x := y) ?_ q
  unfold oDIdx
  rw [hk]
  dsimp only
  rw [g]
  exact h
theorem w_dget2 (h : W (d ρ S) (fun x S1 => ∃ j kvs0, x = .ref j ∧ S1[j]? = some (.dic kvs0) ∧ W (k ρ S1) (fun y S2 => W (z ρ S2) (fun u S3 => W (dget j y u S3) Q E) E) E) E) : W (vDGet2 d k z ρ S) Q E := by
  refine W_bind (W_mono h (fun x S1 h => ?_) fun _ _ h => h)
  obtain ⟨j, kvs0, rfl, g, h⟩ := h
  dsimp only
  rw [dic_at g]
  exact W_bind (W_mono h (fun y S2 h => W_bind h) fun _ _ h => h)
theorem dget_str {j : Nat} {kvs : List (Key × PV)} {w : Str} {u : PV} (g : S[j]? = some (.dic kvs)) (q : Q ((valP kvs (.inr w)).getD u) S) : W (dget j (.str w) u S) Q E := by
  unfold dget
  rw [dic_at g]
  exact q
end
/-! ### dicts of names -/
end
local macro_rules | `(tactic| walk_at "w") => `(tactic| first
  | (with_reducible apply s_set; focus (repeat first | exact SetR.zero | apply SetR.succ))
  | (with_reducible apply w_get; focus (repeat first | exact GetR.zero | apply GetR.succ))
  | with_reducible first
  | refine s_seqN ?_ | refine s_seq ?_ | refine q_nx ?_ | refine q_ret ?_ | refine q_brk ?_ | refine q_cnt ?_ | refine q_exc ?_
  | refine s_nil ?_ | refine s_pass ?_ | refine s_brk ?_ | refine s_cnt ?_ | refine s_expr ?_ | refine s_ret ?_ | refine s_retN ?_ | refine s_if ?_ | refine s_unp ?_ | refine s_sub ?_ | refine s_for ?_
  | refine w_c ?_ | (refine w_str ?_ ?_; decide +kernel) | refine w_bin ?_ | refine w_un ?_ | refine w_chn ?_ | refine w_bV ?_ | refine w_bBl ?_ | refine w_bAnd ?_ | refine w_bOr ?_ | refine w_bNot ?_ | refine w_bYes ?_
  | refine w_vAnd ?_ | refine w_vOr ?_ | refine w_vNot ?_ | refine w_vIf ?_ | refine w_nil ?_ | refine w_cons ?_ | refine w_tup ?_ | refine w_disp ?_ | refine w_new ?_ | refine lnew ?_ | refine w_oNone ?_ | refine w_oSome ?_ | refine w_slc ?_ | refine w_lslc ?_ | refine slcT ?_ | refine slcS ?_
  | refine w_call ?_ | refine w_callL ?_ | refine w_lcallL ?_ | refine w_lcallN ?_ | refine w_isi ?_ | refine w_app ?_ | refine w_app0 ?_ | refine w_lval ?_ | refine w_cat ?_ | refine w_eqL ?_ | refine w_lm ?_ | refine w_ext ?_ | refine w_sm ?_ | refine w_sm0 ?_ | refine w_lsm ?_ | refine w_smL ?_ | refine w_dic0 ?_ | refine w_dic1 ?_ | refine w_iV ?_ | refine w_iL ?_ | refine il_none ?_ | refine il_some ?_ | refine w_rng ?_ | refine w_comp ?_ | refine w_rev ?_ | refine w_lenSet ?_ | refine w_extV ?_
  | refine o_addI ?_ | refine o_iadd ?_ | refine o_sub ?_ | refine o_neg ?_ | refine o_ltI ?_ | refine o_le ?_ | refine o_gt ?_ | refine o_ge ?_ | refine o_is ?_ | refine o_isNot ?_ | refine o_lenT ?_ | refine o_lenF ?_ | refine o_lenS ?_ | refine o_intB ?_ | refine o_intI ?_ | refine o_max ?_ | refine o_min ?_ | refine o_tupT ?_ | refine o_eqI ?_ | refine o_eqS ?_ | refine o_eqB ?_
  | refine b_is ?_ | refine i_is ?_ | refine s_is ?_ | refine i_tup ?_ | refine i_str ?_ | refine tr_bl ?_ | refine ty_bl ?_ | refine ty_str ?_ | refine ty_tup ?_ | refine ty_int ?_ | refine k_s ?_ | refine k_i ?_
  | refine Br.tt ?_ | refine Br.ff ?_ | refine Br.nf ?_ | refine Br.nt ?_ | refine f_ret ?_ | refine f_nx ?_ | refine f_body ?_)
local macro_rules | `(tactic| walk_at "sget") => `(tactic| first
  | assumption | exact get_app _ _ _ | exact trivial
  | (refine get_set ?_; walk_at "sget") | (refine get_app_lt ?_; walk_at "sget"))
local macro_rules | `(tactic| walk_at "len") => `(tactic| first
  | exact Nat.zero_le _ | exact len_le rfl
  | (have hbig := sizeLine_eq; simp only [List.length_map, List.length_cons, List.length_nil, List.length_append, List.length_take, List.length_drop, List.length_reverse, List.length_set, List.length_range]; omega))
local macro_rules | `(tactic| walk_at "off") => `(tactic| focus rfl)
local macro_rules | `(tactic| walk_at "e") => `(tactic| simp only [wipeE, reset, List.foldl_cons, List.foldl_nil, List.set_cons_succ, List.set_cons_zero])
local macro_rules | `(tactic| walk_at "kp") => `(tactic| first | assumption | exact Kp.refl _ | exact Kp.app _ _ | (refine Kp.trans ?_ (Kp.app _ _); walk_at "kp"))
local macro_rules | `(tactic| walk_at "set") => `(tactic| first | exact setR0 | exact setR1 | exact setR2 | exact setR3 | exact setR4 | exact setR5 | exact setR6 | exact setR7 | exact setR8 | exact setR9 | exact setR10 | exact setR11 | exact setR12 | (repeat first | exact SetR.zero | apply SetR.succ))
local macro_rules | `(tactic| walk_at "f") => `(tactic| fail)
local macro_rules | `(tactic| walk_at "x") => `(tactic| first
  | ((with_reducible show W _ _ _); first
    | ((with_reducible apply w_var); (focus exact rfl))
    | with_reducible first | refine w_c ?_ | refine w_cons ?_ | refine w_nil ?_ | refine w_bin ?_ | refine w_app ?_ | refine w_call ?_ | refine w_tup ?_ | refine w_bBl ?_ | refine w_new ?_ | refine w_iV ?_ | refine w_comp ?_ | refine w_iL ?_ | refine w_bV ?_ | refine w_disp ?_ | refine w_vAnd ?_ | refine w_vOr ?_ | refine w_bAnd ?_ | refine w_bOr ?_ | refine w_bNot ?_ | refine w_bYes ?_ | refine w_isi ?_ | refine w_callL ?_ | refine w_lval ?_ | refine w_lm ?_ | refine w_chn ?_ | refine w_un ?_ | refine w_oNone ?_ | refine w_oSome ?_ | refine w_slc ?_ | refine w_lslc ?_ | refine w_rng ?_ | refine w_vNot ?_ | refine w_vIf ?_ | refine w_cat ?_ | refine w_eqL ?_ | refine w_lenSet ?_ | refine w_app0 ?_ | refine w_extV ?_ | refine w_ext ?_ | refine w_lcallL ?_ | refine w_lcallN ?_ | refine w_sm ?_ | refine w_sm0 ?_ | refine w_lsm ?_ | refine w_smL ?_ | refine w_dic0 ?_ | refine w_dic1 ?_ | refine w_rev ?_ | refine f_ret ?_ | refine f_nx ?_
    | ((with_reducible refine g_keep ?_ ?_ ?_); (focus walk_at "kp"); (focus rfl))
    | (with_reducible refine w_str ?_ ?_; decide +kernel)
    | walk_at "f"
    | with_reducible refine f_body ?_)
  | ((with_reducible show WS _ _); first
    | with_reducible first | refine s_seqN ?_ | refine s_seq ?_ | refine q_nx ?_
    | ((with_reducible apply s_set); (focus walk_at "set"))
    | with_reducible first | refine s_expr ?_ | refine s_ret ?_ | refine s_if ?_ | refine s_nil ?_ | refine q_ret ?_ | refine s_unp ?_ | refine s_sub ?_ | refine s_for ?_ | refine q_cnt ?_ | refine q_brk ?_ | refine q_exc ?_ | refine s_retN ?_ | refine s_cnt ?_ | refine s_brk ?_ | refine s_pass ?_)
  | ((with_reducible show Op _ _); first
    | ((with_reducible apply t_n); (focus walk_at "set"))
    | with_reducible first
      | refine t_cons ?_ | refine t_nil ?_ | refine t_tup ?_ | refine i_tup ?_
      | refine o_lenT ?_
      | refine o_eqS ?_ | refine o_eqI ?_ | refine o_eqB ?_ | refine o_neI ?_ | refine o_neS ?_ | refine o_neB ?_ | refine o_is ?_ | refine o_isNot ?_ | refine o_isT ?_ | refine o_isNT ?_ | refine o_isF ?_ | refine o_isNF ?_
      | refine o_addI ?_ | refine o_sub ?_ | refine o_neg ?_ | refine o_ltI ?_ | refine o_le ?_ | refine o_gt ?_ | refine o_ge ?_ | refine o_iadd ?_
      | refine tr_bl ?_ | refine ty_bl ?_ | refine ty_str ?_ | refine ty_tup ?_ | refine ty_int ?_ | refine o_tupT ?_
      | refine o_lenF ?_ | refine o_lenS ?_ | refine o_intB ?_ | refine o_intI ?_ | refine o_max ?_ | refine o_min ?_ | refine i_str ?_ | refine k_s ?_ | refine k_i ?_
    | ((with_reducible apply o_idxT); (focus first | exact at0 _ _ | exact at1 _ _ _ | exact at2 _ _ _ _ | exact at3 _ _ _ _ _))
    | ((with_reducible apply i_ref); (focus walk_at "sget"))
    | ((with_reducible apply o_getL); (focus walk_at "sget"))
    | ((with_reducible apply o_lenR); (focus walk_at "sget"))
    | ((with_reducible apply o_idxR); (focus walk_at "sget"); (focus first | exact at0 _ _ | exact at1 _ _ _ | exact at2 _ _ _ _))
    | ((with_reducible apply o_tupR); (focus walk_at "sget"))
    | ((with_reducible apply o_listR); (focus walk_at "sget"))
    | ((with_reducible refine o_mod ?_ ?_); (focus omega))
    | ((with_reducible refine o_div ?_ ?_); (focus omega))
    | ((with_reducible refine o_pow ?_ ?_); (focus decide))
    | ((with_reducible refine o_app ?_ ?_); (focus walk_at "len"))
    | walk_at "f")
  | with_reducible first | refine b_is ?_ | refine i_is ?_ | refine s_is ?_ | refine Br.tt ?_ | refine Br.ff ?_ | refine Br.nf ?_ | refine Br.nt ?_ | refine lnew ?_ | refine il_none ?_ | refine il_some ?_ | refine revT ?_ | refine slcT ?_ | refine slcS ?_
  | ((with_reducible refine Br.of_tt ?_ ?_); focus (first | assumption | rfl | exact beq_self_eq_true _ | (simp only [decide_eq_true_eq]; omega)))
  | ((with_reducible refine Br.of_ff ?_ ?_); focus (first | assumption | rfl | (rw [beq_self_eq_true]; rfl) | (simp only [decide_eq_false_iff_not]; omega)))
  | ((with_reducible refine And.intro ?_ ?_); (focus first | ((with_reducible show _ ≤ sizeLine); walk_at "len") | ((with_reducible show lkOk _ _); walk_at "sget")))
  | ((with_reducible refine seek_nx ?_ ?_); (focus rfl); walk_at "off") | ((with_reducible refine seek_cnt ?_ ?_); (focus rfl); walk_at "off") | ((with_reducible refine seek_ret ?_); focus rfl))
local macro_rules | `(tactic| walk_at "b") => `(tactic| with_reducible first | refine b_is ?_ | refine Br.tt ?_ | refine Br.ff ?_ | refine Br.nf ?_ | refine Br.nt ?_ | refine tr_bl ?_)
local macro_rules | `(tactic| walk_at "y") => `(tactic| (fail_if_success (with_reducible refine s_if ?_)); walk_at "x")
local macro_rules | `(tactic| walk_at "f") => `(tactic| with_reducible first | refine w_iEn ?_ | refine w_iZp ?_ | refine zs_two ?_ | refine en_tup ?_ | refine en_frl ?_ | refine z_tup ?_ | refine i_frl ?_ | refine w_revT ?_)
local macro_rules | `(tactic| walk_at "x") => `(tactic| first
  | with_reducible first | refine s_raise1 ?_ | refine s_raise0 ?_ | refine s_try ?_ | refine tq_nx ?_ | refine tq_ret ?_ | refine f_exc ?_ | refine q_offR ?_
  | ((with_reducible refine q_off ?_ ?_); (focus (repeat first | exact OffR.zero | apply OffR.succ))))
/-! Fw200: dict(x) of a tuple or a list of pairs. -/
section
section
variable {X : Cx} {W : WX} {e : Expr} {ev : TV} {pd pos : Pos}
end
end
end Ev
namespace Ev
open PySem PySem.Spec PyProof.Rows L2
/-! Fw210: dicts: d.get(k); a dict of the module; displays of many pairs; len. -/
section
section
variable {X : Cx} {W : WX} {a b c d : Expr} {ea eb ec : TV} {pos apos cpos : Pos}
/-! ### d.get(k) -/
def dget1 (j : Nat) (y : PV) (S : Store) : Res PV := match dicAt S j with
  | some kvs => match keyOf y with
    | some k => .ok ((valP kvs k).getD .non) S
    | none => .bad
  | none => .bad
def vDGet1 (d k : TV) : TV := fun ρ S => (d ρ S).bind fun x S1 => match x with
  | .ref j => match dicAt S1 j with
    | some _ => (k ρ S1).bind fun y S2 => dget1 j y S2
    | _ => .bad
  | _ => .bad
/-! ### a dict of the module, texts to numbers: D.get(k) -/
def KTab (K : PySem.W.Frag) (mg : Str → Option Value) (n : Str) (D : List (Str × Int)) : Prop := ∃ a, mg n = some (.ref a) ∧ (a == sysModules) = false ∧ ∃ o es ep, K.lookup a = some o ∧ o.ExactDict ∧ o.data = .dict es ep ∧ KTD.Rows (fun d v => ∃ t, v = Value.int d t) es.toList D
def lookT (D : List (Str × Int)) (x : Str) : PV := match KTD.datumAt x D with
  | some i => .int i
  | none => .non
def vKGet (D : List (Str × Int)) (k : TV) : TV := fun ρ S => (k ρ S).bind fun y S1 => match y with
  | .str x => .ok (lookT D x) S1
  | _ => .bad
/-! ### {k: v, ..} -/
def flatVV : List (V × V) → List V
  | [] => []
  | p :: r => p.1 :: p.2 :: flatVV r
def SP (X : Cx) (W : WX) (pos : Pos) (keys : List (Option Expr)) (values : List Expr) (evs : TVs) : Prop :=
  ∃ trs, PPs X pos keys values trs ∧ ∀ σ H (G : List (V × V) → Hp → Prop), A_ X W evs σ H (fun vs H' => ∀ ps, flatVV ps = vs → G ps H') → tPairs trs σ H G
theorem sp_nil : SP X W pos [] [] vsNil := ⟨[], pps_nil, fun σ H G ⟨μ, S, ρ, R, E, p⟩ => p μ H [] Ext.refl R .nil [] rfl⟩
theorem sp_cons {k v : Expr} {ks : List (Option Expr)} {vs : List Expr} {evs : TVs} (hk : PE X k (E_ X W ea)) (hv : PE X v (E_ X W eb)) (hr : SP X W pos ks vs evs) : SP X W pos (some k :: ks) (v :: vs) (vsCons ea (vsCons eb evs)) := by
  obtain ⟨trs, h1, h2⟩ := hr
  refine ⟨_, pps_cons hk hv h1, fun σ H G h => ?_⟩
  obtain ⟨μ, S, ρ, R, E, p⟩ := h
  refine ⟨μ, S, ρ, R, E, Post.step (P := fun μ H r => PostA X.K (cmX X) μ H r _ (atσ W σ)) p (fun _ _ h => h) (fun h => h) fun x S1 μ1 H1 u E1 R1 rv p => ?_⟩
  have p := p.ext E1
  have p : PostA X.K (cmX X) μ1 H1 ((eb ρ S1).bind fun y S => ((evs ρ S).bind fun xs S => .ok (x :: y :: xs) S)) (fun vs H' => ∀ ps, flatVV ps = vs → G ps H') (atσ W σ) := by
    have e : ((vsCons eb evs) ρ S1).bind (fun xs S => Res.ok (x :: xs) S) = (eb ρ S1).bind fun y S => ((evs ρ S).bind fun xs S => .ok (x :: y :: xs) S) := by
      show ((eb ρ S1).bind fun y S => (evs ρ S).bind fun xs S => Res.ok (y :: xs) S).bind _ = _
      cases eb ρ S1 with
      | ok y S2 =>
        show ((evs ρ S2).bind fun xs S => Res.ok (y :: xs) S).bind _ = (evs ρ S2).bind fun xs S => .ok (x :: y :: xs) S
        cases evs ρ S2 <;> rfl
      | exc _ _ => rfl
      | bad => rfl
    rw [← e]; exact p
  refine ⟨μ1, S1, ρ, R1, E.mono R E1, Post.step (P := fun μ H r => PostA X.K (cmX X) μ H r _ (atσ W σ)) p (fun _ _ h => h) (fun h => h) fun y S2 μ2 H2 w E2 R2 rw2 p => ?_⟩
  have p := p.ext E2
  refine h2 σ H2 _ ⟨μ2, S2, ρ, R2, (E.mono R E1).mono R1 E2, PostA.step (P := fun μ H r => PostA X.K (cmX X) μ H r _ (atσ W σ)) p (fun _ _ h => h) (fun h => h) fun xs S3 μ3 H3 ws E3 R3 rws p => ?_⟩
  intro ps eps
  exact p μ3 H3 _ E3 R3 (.cons ((rv.mono R1 E2).mono R2 E3) (.cons (rw2.mono R2 E3) rws)) ((u, w) :: ps) (by simp [flatVV, eps])
theorem pairUp_V {K : PySem.W.Frag} {μ : List Addr} {H : Hp} : ∀ {xs : List PV} {vs : List V} {kvs : List (Key × PV)} {ps : List (V × V)}, pairUp xs = some kvs → RVs K μ H xs vs → flatVV ps = vs → ∃ k2 : List (Key × V), ps = k2.map (fun kv => (kV kv.1, kv.2)) ∧ RKs K μ H kvs k2 ∧ k2.length = kvs.length
  | [], vs, kvs, ps, h, r, e => by
    cases h
    cases r
    cases ps with
    | nil => exact ⟨[], rfl, .nil, rfl⟩
    | cons p ps => simp [flatVV] at e
  | [x], vs, kvs, ps, h, r, e => by simp [pairUp] at h
  | x :: y :: xs, vs, kvs, ps, h, r, e => by
    simp only [pairUp] at h
    cases hk : keyOf x with
    | none => rw [hk] at h; cases h
    | some k =>
      cases hz : pairUp xs with
      | none => rw [hk, hz] at h; cases h
      | some t =>
        rw [hk, hz] at h
        cases h
        cases r with
        | cons h1 t1 =>
          cases t1 with
          | cons h2 t2 =>
            cases ps with
            | nil => simp [flatVV] at e
            | cons p ps =>
              simp only [flatVV, List.cons.injEq] at e
              obtain ⟨e1, e2, e3⟩ := e
              obtain ⟨k2, r1, r2, r3⟩ := pairUp_V hz t2 e3
              have ek := key_V hk h1
              refine ⟨(k, p.2) :: k2, ?_, .cons ⟨rfl, e2 ▸ h2⟩ r2, by rw [List.length_cons, List.length_cons, r3]⟩
              rw [List.map_cons, ← r1]
              obtain ⟨p1, p2⟩ := p
              dsimp only at e1 e2 ⊢
              rw [e1, ek]
theorem sv_dicN {keys : List (Option Expr)} {values : List Expr} {evs : TVs} (h : SP X W pos keys values evs) (hall : keys.all (·.isSome) = true) (hl : keys.length = values.length) (h0 : keys ≠ []) (h15 : keys.length ≤ 15) : PE X (.Dict keys values pos) (E_ X W (vDicN evs)) := by
  obtain ⟨trs, h1, h2⟩ := h
  refine PE.imp (pe_disp h1 hall hl h0 h15) fun σ H Q h => ?_
  obtain ⟨μ, S, ρ, R, E, p⟩ := h
  intro q hq
  have E0 : Ext μ H μ (upd H q (.dK [])) := Ext.fresh hq
  have R0 : RS X.K (cmX X) μ S (upd H q (.dK [])) := R.fresh hq
  have hm : q ∉ μ := fun h => R.trk h hq
  refine h2 σ _ _ ⟨μ, S, ρ, R0, E.mono R E0, PostA.step (P := fun _ _ r => Post X.K (cmX X) μ H r Q (atσ W σ)) p (fun _ _ h => Post.ext E0 h) (fun h => h) fun xs S2 μ2 H2 vs E2 R2 rvs p => ?_⟩
  intro ps eps
  have hm2 : q ∉ μ2 := fun z => by
    rcases E2.new q z with h | h
    · exact hm h
    · rw [upd_same] at h; cases h
  have h2 : H2 q = some (.dK []) := E2.kp _ _ upd_same hm
  refine ⟨h2, ?_⟩
  cases hk : pairUp xs with
  | none => rw [hk] at p; exact p.elim
  | some kvs =>
    rw [hk] at p
    dsimp only at p
    split at p
    · rename_i hle
      obtain ⟨k2, e2, r2, l2⟩ := pairUp_V hk rvs eps
      refine ⟨k2, e2, by omega, ?_⟩
      have up : Up2 μ2 H2 (μ2 ++ [q]) (upd H2 q (.dK (mergeK [] k2))) := ⟨fun i b h => by rw [List.getElem?_append_left (List.getElem?_eq_some_iff.mp h).1]; exact h, fun b vs hb => by
        rcases hb with hb | ⟨u, hb⟩
        · exact .inl (by rw [upd_ne]; exact hb; rintro rfl; rw [h2] at hb; cases hb)
        · exact .inr ⟨u, by rw [upd_ne]; exact hb; rintro rfl; rw [h2] at hb; cases hb⟩, fun b u vs hb => (by rw [upd_ne]; exact hb; rintro rfl; rw [h2] at hb; cases hb), fun b u hb => by rw [upd_ne]; exact hb; rintro rfl; rw [h2] at hb; cases hb⟩
      have ex : Ext μ H μ2 H2 := E0.trans E2
      have lm := length_mergeP kvs []
      refine p (μ2 ++ [q]) _ _ ⟨fun i b h => up.pre i b (ex.pre i b h), fun b hb => ?_, fun b u h hbm => ?_, fun b u x h => by rw [upd_ne (ne_of_none h hq)]; exact ex.kz b u x h⟩ ⟨by simp [R2.len], ?_, fun i b o hi ho => ?_⟩ (.ref ?_)
      · rcases List.mem_append.mp hb with hb | hb
        · exact ex.new b hb
        · rw [List.mem_singleton.mp hb]; exact .inr hq
      · rw [upd_ne (ne_of_none h hq)]; exact ex.kp b u h hbm
      · rw [List.nodup_append]
        exact ⟨R2.nd, by simp, fun x hx y hy => by rw [List.mem_singleton.mp hy]; rintro rfl; exact hm2 hx⟩
      · by_cases hl : i < μ2.length
        · rw [List.getElem?_append_left hl] at hi
          rw [List.getElem?_append_left (by rw [← R2.len]; exact hl)] at ho
          exact (R2.ob i b o hi ho).mono2 up (by rw [upd_ne]; rintro rfl; exact hm2 (List.mem_of_getElem? hi))
        · have h1 := (List.getElem?_eq_some_iff.mp hi).1
          simp at h1
          have : i = μ2.length := by omega
          subst this
          rw [List.getElem?_append_right (Nat.le_refl _), Nat.sub_self] at hi
          rw [R2.len, List.getElem?_append_right (Nat.le_refl _), Nat.sub_self] at ho
          simp at hi ho
          subst hi ho
          exact ⟨_, upd_same, by rw [List.length_nil] at lm; rw [sizeLine_eq]; omega, rks_merge (r2.mono2 up) .nil⟩
      · rw [List.getElem?_append_right (by rw [R2.len]; exact Nat.le_refl _), R2.len, Nat.sub_self]; rfl
    · exact p.elim
end
end
end Ev
namespace Ev
open PySem PySem.Spec PyProof.Rows L2 SX
local macro_rules | `(tactic| walk_at "w") => `(tactic| first
  | (with_reducible apply s_set; focus (repeat first | exact SetR.zero | apply SetR.succ))
  | (with_reducible apply w_get; focus (repeat first | exact GetR.zero | apply GetR.succ))
  | with_reducible first
  | refine s_seqN ?_ | refine s_seq ?_ | refine q_nx ?_ | refine q_ret ?_ | refine q_brk ?_ | refine q_cnt ?_ | refine q_exc ?_
  | refine s_nil ?_ | refine s_pass ?_ | refine s_brk ?_ | refine s_cnt ?_ | refine s_expr ?_ | refine s_ret ?_ | refine s_retN ?_ | refine s_if ?_ | refine s_unp ?_ | refine s_sub ?_ | refine s_for ?_
  | refine w_c ?_ | (refine w_str ?_ ?_; decide +kernel) | refine w_bin ?_ | refine w_un ?_ | refine w_chn ?_ | refine w_bV ?_ | refine w_bBl ?_ | refine w_bAnd ?_ | refine w_bOr ?_ | refine w_bNot ?_ | refine w_bYes ?_
  | refine w_vAnd ?_ | refine w_vOr ?_ | refine w_vNot ?_ | refine w_vIf ?_ | refine w_nil ?_ | refine w_cons ?_ | refine w_tup ?_ | refine w_disp ?_ | refine w_new ?_ | refine lnew ?_ | refine w_oNone ?_ | refine w_oSome ?_ | refine w_slc ?_ | refine w_lslc ?_ | refine slcT ?_ | refine slcS ?_
  | refine w_call ?_ | refine w_callL ?_ | refine w_lcallL ?_ | refine w_lcallN ?_ | refine w_isi ?_ | refine w_app ?_ | refine w_app0 ?_ | refine w_lval ?_ | refine w_cat ?_ | refine w_eqL ?_ | refine w_lm ?_ | refine w_ext ?_ | refine w_sm ?_ | refine w_sm0 ?_ | refine w_lsm ?_ | refine w_smL ?_ | refine w_dic0 ?_ | refine w_dic1 ?_ | refine w_iV ?_ | refine w_iL ?_ | refine il_none ?_ | refine il_some ?_ | refine w_rng ?_ | refine w_comp ?_ | refine w_rev ?_ | refine w_lenSet ?_ | refine w_extV ?_
  | refine o_addI ?_ | refine o_iadd ?_ | refine o_sub ?_ | refine o_neg ?_ | refine o_ltI ?_ | refine o_le ?_ | refine o_gt ?_ | refine o_ge ?_ | refine o_is ?_ | refine o_isNot ?_ | refine o_lenT ?_ | refine o_lenF ?_ | refine o_lenS ?_ | refine o_intB ?_ | refine o_intI ?_ | refine o_max ?_ | refine o_min ?_ | refine o_tupT ?_ | refine o_eqI ?_ | refine o_eqS ?_ | refine o_eqB ?_
  | refine b_is ?_ | refine i_is ?_ | refine s_is ?_ | refine i_tup ?_ | refine i_str ?_ | refine tr_bl ?_ | refine ty_bl ?_ | refine ty_str ?_ | refine ty_tup ?_ | refine ty_int ?_ | refine k_s ?_ | refine k_i ?_
  | refine Br.tt ?_ | refine Br.ff ?_ | refine Br.nf ?_ | refine Br.nt ?_ | refine f_ret ?_ | refine f_nx ?_ | refine f_body ?_)
local macro_rules | `(tactic| walk_at "sget") => `(tactic| first
  | assumption | exact get_app _ _ _ | exact trivial
  | (refine get_set ?_; walk_at "sget") | (refine get_app_lt ?_; walk_at "sget"))
local macro_rules | `(tactic| walk_at "len") => `(tactic| first
  | exact Nat.zero_le _ | exact len_le rfl
  | (have hbig := sizeLine_eq; simp only [List.length_map, List.length_cons, List.length_nil, List.length_append, List.length_take, List.length_drop, List.length_reverse, List.length_set, List.length_range]; omega))
local macro_rules | `(tactic| walk_at "off") => `(tactic| focus rfl)
local macro_rules | `(tactic| walk_at "e") => `(tactic| simp only [wipeE, reset, List.foldl_cons, List.foldl_nil, List.set_cons_succ, List.set_cons_zero])
local macro_rules | `(tactic| walk_at "kp") => `(tactic| first | assumption | exact Kp.refl _ | exact Kp.app _ _ | (refine Kp.trans ?_ (Kp.app _ _); walk_at "kp"))
local macro_rules | `(tactic| walk_at "set") => `(tactic| first | exact setR0 | exact setR1 | exact setR2 | exact setR3 | exact setR4 | exact setR5 | exact setR6 | exact setR7 | exact setR8 | exact setR9 | exact setR10 | exact setR11 | exact setR12 | (repeat first | exact SetR.zero | apply SetR.succ))
local macro_rules | `(tactic| walk_at "f") => `(tactic| fail)
local macro_rules | `(tactic| walk_at "x") => `(tactic| first
  | ((with_reducible show W _ _ _); first
    | ((with_reducible apply w_var); (focus exact rfl))
    | with_reducible first | refine w_c ?_ | refine w_cons ?_ | refine w_nil ?_ | refine w_bin ?_ | refine w_app ?_ | refine w_call ?_ | refine w_tup ?_ | refine w_bBl ?_ | refine w_new ?_ | refine w_iV ?_ | refine w_comp ?_ | refine w_iL ?_ | refine w_bV ?_ | refine w_disp ?_ | refine w_vAnd ?_ | refine w_vOr ?_ | refine w_bAnd ?_ | refine w_bOr ?_ | refine w_bNot ?_ | refine w_bYes ?_ | refine w_isi ?_ | refine w_callL ?_ | refine w_lval ?_ | refine w_lm ?_ | refine w_chn ?_ | refine w_un ?_ | refine w_oNone ?_ | refine w_oSome ?_ | refine w_slc ?_ | refine w_lslc ?_ | refine w_rng ?_ | refine w_vNot ?_ | refine w_vIf ?_ | refine w_cat ?_ | refine w_eqL ?_ | refine w_lenSet ?_ | refine w_app0 ?_ | refine w_extV ?_ | refine w_ext ?_ | refine w_lcallL ?_ | refine w_lcallN ?_ | refine w_sm ?_ | refine w_sm0 ?_ | refine w_lsm ?_ | refine w_smL ?_ | refine w_dic0 ?_ | refine w_dic1 ?_ | refine w_rev ?_ | refine f_ret ?_ | refine f_nx ?_
    | ((with_reducible refine g_keep ?_ ?_ ?_); (focus walk_at "kp"); (focus rfl))
    | (with_reducible refine w_str ?_ ?_; decide +kernel)
    | walk_at "f"
    | with_reducible refine f_body ?_)
  | ((with_reducible show WS _ _); first
    | with_reducible first | refine s_seqN ?_ | refine s_seq ?_ | refine q_nx ?_
    | ((with_reducible apply s_set); (focus walk_at "set"))
    | with_reducible first | refine s_expr ?_ | refine s_ret ?_ | refine s_if ?_ | refine s_nil ?_ | refine q_ret ?_ | refine s_unp ?_ | refine s_sub ?_ | refine s_for ?_ | refine q_cnt ?_ | refine q_brk ?_ | refine q_exc ?_ | refine s_retN ?_ | refine s_cnt ?_ | refine s_brk ?_ | refine s_pass ?_)
  | ((with_reducible show Op _ _); first
    | ((with_reducible apply t_n); (focus walk_at "set"))
    | with_reducible first
      | refine t_cons ?_ | refine t_nil ?_ | refine t_tup ?_ | refine i_tup ?_
      | refine o_lenT ?_
      | refine o_eqS ?_ | refine o_eqI ?_ | refine o_eqB ?_ | refine o_neI ?_ | refine o_neS ?_ | refine o_neB ?_ | refine o_is ?_ | refine o_isNot ?_ | refine o_isT ?_ | refine o_isNT ?_ | refine o_isF ?_ | refine o_isNF ?_
      | refine o_addI ?_ | refine o_sub ?_ | refine o_neg ?_ | refine o_ltI ?_ | refine o_le ?_ | refine o_gt ?_ | refine o_ge ?_ | refine o_iadd ?_
      | refine tr_bl ?_ | refine ty_bl ?_ | refine ty_str ?_ | refine ty_tup ?_ | refine ty_int ?_ | refine o_tupT ?_
      | refine o_lenF ?_ | refine o_lenS ?_ | refine o_intB ?_ | refine o_intI ?_ | refine o_max ?_ | refine o_min ?_ | refine i_str ?_ | refine k_s ?_ | refine k_i ?_
    | ((with_reducible apply o_idxT); (focus first | exact at0 _ _ | exact at1 _ _ _ | exact at2 _ _ _ _ | exact at3 _ _ _ _ _))
    | ((with_reducible apply i_ref); (focus walk_at "sget"))
    | ((with_reducible apply o_getL); (focus walk_at "sget"))
    | ((with_reducible apply o_lenR); (focus walk_at "sget"))
    | ((with_reducible apply o_idxR); (focus walk_at "sget"); (focus first | exact at0 _ _ | exact at1 _ _ _ | exact at2 _ _ _ _))
    | ((with_reducible apply o_tupR); (focus walk_at "sget"))
    | ((with_reducible apply o_listR); (focus walk_at "sget"))
    | ((with_reducible refine o_mod ?_ ?_); (focus omega))
    | ((with_reducible refine o_div ?_ ?_); (focus omega))
    | ((with_reducible refine o_pow ?_ ?_); (focus decide))
    | ((with_reducible refine o_app ?_ ?_); (focus walk_at "len"))
    | walk_at "f")
  | with_reducible first | refine b_is ?_ | refine i_is ?_ | refine s_is ?_ | refine Br.tt ?_ | refine Br.ff ?_ | refine Br.nf ?_ | refine Br.nt ?_ | refine lnew ?_ | refine il_none ?_ | refine il_some ?_ | refine revT ?_ | refine slcT ?_ | refine slcS ?_
  | ((with_reducible refine Br.of_tt ?_ ?_); focus (first | assumption | rfl | exact beq_self_eq_true _ | (simp only [decide_eq_true_eq]; omega)))
  | ((with_reducible refine Br.of_ff ?_ ?_); focus (first | assumption | rfl | (rw [beq_self_eq_true]; rfl) | (simp only [decide_eq_false_iff_not]; omega)))
  | ((with_reducible refine And.intro ?_ ?_); (focus first | ((with_reducible show _ ≤ sizeLine); walk_at "len") | ((with_reducible show lkOk _ _); walk_at "sget")))
  | ((with_reducible refine seek_nx ?_ ?_); (focus rfl); walk_at "off") | ((with_reducible refine seek_cnt ?_ ?_); (focus rfl); walk_at "off") | ((with_reducible refine seek_ret ?_); focus rfl))
local macro_rules | `(tactic| walk_at "b") => `(tactic| with_reducible first | refine b_is ?_ | refine Br.tt ?_ | refine Br.ff ?_ | refine Br.nf ?_ | refine Br.nt ?_ | refine tr_bl ?_)
local macro_rules | `(tactic| walk_at "y") => `(tactic| (fail_if_success (with_reducible refine s_if ?_)); walk_at "x")
local macro_rules | `(tactic| walk_at "f") => `(tactic| with_reducible first | refine w_iEn ?_ | refine w_iZp ?_ | refine zs_two ?_ | refine en_tup ?_ | refine en_frl ?_ | refine z_tup ?_ | refine i_frl ?_ | refine w_revT ?_)
local macro_rules | `(tactic| walk_at "x") => `(tactic| first
  | with_reducible first | refine s_raise1 ?_ | refine s_raise0 ?_ | refine s_try ?_ | refine tq_nx ?_ | refine tq_ret ?_ | refine f_exc ?_ | refine q_offR ?_
  | ((with_reducible refine q_off ?_ ?_); (focus (repeat first | exact OffR.zero | apply OffR.succ))))
/-! Fw211: the length of a dict; Known; rows, words, branches by form. -/
section
local macro_rules | `(tactic| walk_at "f") => `(tactic| (with_reducible first | refine w_lcallL ?_ | refine w_lcallN ?_ | refine w_at ?_ | refine w_mth0 ?_ | refine w_mth ?_ | refine w_make ?_ | refine w_isi2 ?_))
local macro_rules | `(tactic| walk_at "x") => `(tactic| (with_reducible first | refine s_at ?_ | refine s_atA ?_))
/-! ### len of a dict -/
section
variable {Q : PV → Store → Prop} {E : PX → Store → Prop} {ρ : Env'} {S S0 T : Store} {d k : TV}
theorem o_stK {P : Store → Prop} {j : Nat} {kvs : List (Key × PV)} {z : Str} {v : PV} (g : S[j]? = some (.dic kvs)) (hl : kvs.length < sizeLine) (q : P (S.set j (.dic (putP kvs (.inr z) v)))) : Op (storeAt (.ref j) (.str z) v S) P :=
  Op.of (by simp only [storeAt, g]; rw [if_pos hl]) q
theorem w_dget1 (h : W (d ρ S) (fun x S1 => ∃ j kvs0, x = .ref j ∧ S1[j]? = some (.dic kvs0) ∧ W (k ρ S1) (fun y S2 => W (dget1 j y S2) Q E) E) E) : W (vDGet1 d k ρ S) Q E := by
  refine W_bind (W_mono h (fun x S1 h => ?_) fun _ _ h => h)
  obtain ⟨j, kvs0, rfl, g, h⟩ := h
  dsimp only
  rw [dic_at g]
  exact W_bind h
theorem w_kget {D : List (Str × Int)} (h : W (k ρ S) (fun y S1 => ∃ x, y = .str x ∧ Q (lookT D x) S1) E) : W (vKGet D k ρ S) Q E := by
  refine W_bind (W_mono h (fun y S1 h => ?_) fun _ _ h => h)
  obtain ⟨x, rfl, q⟩ := h
  exact q
end
/-- a key that wasn't there comes last -/
theorem putP_new {kvs : List (Key × PV)} {k : Key} {v : PV} (h : k ∉ kvs.map (·.1)) : putP kvs k v = kvs ++ [(k, v)] := by
  unfold putP
  rw [if_neg]
  intro e
  obtain ⟨p, hp, e⟩ := List.any_eq_true.mp e
  exact h (of_decide_eq_true e ▸ List.mem_map_of_mem hp)
end
/-! Fw212: a drawn row is a row. -/
section
local macro_rules | `(tactic| walk_at "f") => `(tactic| (with_reducible first | refine w_lcallL ?_ | refine w_lcallN ?_ | refine w_at ?_ | refine w_mth0 ?_ | refine w_mth ?_ | refine w_make ?_ | refine w_isi2 ?_ | refine w_kget ?_ | refine w_dget1 ?_))
local macro_rules | `(tactic| walk_at "x") => `(tactic| (with_reducible first | refine s_at ?_ | refine s_atA ?_))
section
variable {Q : PV → Store → Prop} {E : PX → Store → Prop} {S0 : Store} {C : RC} {i : Nat}
/-! ### branches -/
/-! ### words -/
end
end
/-! Fw213: a drawn program is a program. -/
end Ev
namespace Ev
open PySem PySem.Spec PyProof.Rows L2 SX
local macro_rules | `(tactic| walk_at "w") => `(tactic| first
  | (with_reducible apply s_set; focus (repeat first | exact SetR.zero | apply SetR.succ))
  | (with_reducible apply w_get; focus (repeat first | exact GetR.zero | apply GetR.succ))
  | with_reducible first
  | refine s_seqN ?_ | refine s_seq ?_ | refine q_nx ?_ | refine q_ret ?_ | refine q_brk ?_ | refine q_cnt ?_ | refine q_exc ?_
  | refine s_nil ?_ | refine s_pass ?_ | refine s_brk ?_ | refine s_cnt ?_ | refine s_expr ?_ | refine s_ret ?_ | refine s_retN ?_ | refine s_if ?_ | refine s_unp ?_ | refine s_sub ?_ | refine s_for ?_
  | refine w_c ?_ | (refine w_str ?_ ?_; decide +kernel) | refine w_bin ?_ | refine w_un ?_ | refine w_chn ?_ | refine w_bV ?_ | refine w_bBl ?_ | refine w_bAnd ?_ | refine w_bOr ?_ | refine w_bNot ?_ | refine w_bYes ?_
  | refine w_vAnd ?_ | refine w_vOr ?_ | refine w_vNot ?_ | refine w_vIf ?_ | refine w_nil ?_ | refine w_cons ?_ | refine w_tup ?_ | refine w_disp ?_ | refine w_new ?_ | refine lnew ?_ | refine w_oNone ?_ | refine w_oSome ?_ | refine w_slc ?_ | refine w_lslc ?_ | refine slcT ?_ | refine slcS ?_
  | refine w_call ?_ | refine w_callL ?_ | refine w_lcallL ?_ | refine w_lcallN ?_ | refine w_isi ?_ | refine w_app ?_ | refine w_app0 ?_ | refine w_lval ?_ | refine w_cat ?_ | refine w_eqL ?_ | refine w_lm ?_ | refine w_ext ?_ | refine w_sm ?_ | refine w_sm0 ?_ | refine w_lsm ?_ | refine w_smL ?_ | refine w_dic0 ?_ | refine w_dic1 ?_ | refine w_iV ?_ | refine w_iL ?_ | refine il_none ?_ | refine il_some ?_ | refine w_rng ?_ | refine w_comp ?_ | refine w_rev ?_ | refine w_lenSet ?_ | refine w_extV ?_
  | refine o_addI ?_ | refine o_iadd ?_ | refine o_sub ?_ | refine o_neg ?_ | refine o_ltI ?_ | refine o_le ?_ | refine o_gt ?_ | refine o_ge ?_ | refine o_is ?_ | refine o_isNot ?_ | refine o_lenT ?_ | refine o_lenF ?_ | refine o_lenS ?_ | refine o_intB ?_ | refine o_intI ?_ | refine o_max ?_ | refine o_min ?_ | refine o_tupT ?_ | refine o_eqI ?_ | refine o_eqS ?_ | refine o_eqB ?_
  | refine b_is ?_ | refine i_is ?_ | refine s_is ?_ | refine i_tup ?_ | refine i_str ?_ | refine tr_bl ?_ | refine ty_bl ?_ | refine ty_str ?_ | refine ty_tup ?_ | refine ty_int ?_ | refine k_s ?_ | refine k_i ?_
  | refine Br.tt ?_ | refine Br.ff ?_ | refine Br.nf ?_ | refine Br.nt ?_ | refine f_ret ?_ | refine f_nx ?_ | refine f_body ?_)
local macro_rules | `(tactic| walk_at "sget") => `(tactic| first
  | assumption | exact get_app _ _ _ | exact trivial
  | (refine get_set ?_; walk_at "sget") | (refine get_app_lt ?_; walk_at "sget"))
local macro_rules | `(tactic| walk_at "len") => `(tactic| first
  | exact Nat.zero_le _ | exact len_le rfl
  | (have hbig := sizeLine_eq; simp only [List.length_map, List.length_cons, List.length_nil, List.length_append, List.length_take, List.length_drop, List.length_reverse, List.length_set, List.length_range]; omega))
local macro_rules | `(tactic| walk_at "off") => `(tactic| focus rfl)
local macro_rules | `(tactic| walk_at "e") => `(tactic| simp only [wipeE, reset, List.foldl_cons, List.foldl_nil, List.set_cons_succ, List.set_cons_zero])
local macro_rules | `(tactic| walk_at "kp") => `(tactic| first | assumption | exact Kp.refl _ | exact Kp.app _ _ | (refine Kp.trans ?_ (Kp.app _ _); walk_at "kp"))
local macro_rules | `(tactic| walk_at "set") => `(tactic| first | exact setR0 | exact setR1 | exact setR2 | exact setR3 | exact setR4 | exact setR5 | exact setR6 | exact setR7 | exact setR8 | exact setR9 | exact setR10 | exact setR11 | exact setR12 | (repeat first | exact SetR.zero | apply SetR.succ))
local macro_rules | `(tactic| walk_at "f") => `(tactic| fail)
local macro_rules | `(tactic| walk_at "x") => `(tactic| first
  | ((with_reducible show W _ _ _); first
    | ((with_reducible apply w_var); (focus exact rfl))
    | with_reducible first | refine w_c ?_ | refine w_cons ?_ | refine w_nil ?_ | refine w_bin ?_ | refine w_app ?_ | refine w_call ?_ | refine w_tup ?_ | refine w_bBl ?_ | refine w_new ?_ | refine w_iV ?_ | refine w_comp ?_ | refine w_iL ?_ | refine w_bV ?_ | refine w_disp ?_ | refine w_vAnd ?_ | refine w_vOr ?_ | refine w_bAnd ?_ | refine w_bOr ?_ | refine w_bNot ?_ | refine w_bYes ?_ | refine w_isi ?_ | refine w_callL ?_ | refine w_lval ?_ | refine w_lm ?_ | refine w_chn ?_ | refine w_un ?_ | refine w_oNone ?_ | refine w_oSome ?_ | refine w_slc ?_ | refine w_lslc ?_ | refine w_rng ?_ | refine w_vNot ?_ | refine w_vIf ?_ | refine w_cat ?_ | refine w_eqL ?_ | refine w_lenSet ?_ | refine w_app0 ?_ | refine w_extV ?_ | refine w_ext ?_ | refine w_lcallL ?_ | refine w_lcallN ?_ | refine w_sm ?_ | refine w_sm0 ?_ | refine w_lsm ?_ | refine w_smL ?_ | refine w_dic0 ?_ | refine w_dic1 ?_ | refine w_rev ?_ | refine f_ret ?_ | refine f_nx ?_
    | ((with_reducible refine g_keep ?_ ?_ ?_); (focus walk_at "kp"); (focus rfl))
    | (with_reducible refine w_str ?_ ?_; decide +kernel)
    | walk_at "f"
    | with_reducible refine f_body ?_)
  | ((with_reducible show WS _ _); first
    | with_reducible first | refine s_seqN ?_ | refine s_seq ?_ | refine q_nx ?_
    | ((with_reducible apply s_set); (focus walk_at "set"))
    | with_reducible first | refine s_expr ?_ | refine s_ret ?_ | refine s_if ?_ | refine s_nil ?_ | refine q_ret ?_ | refine s_unp ?_ | refine s_sub ?_ | refine s_for ?_ | refine q_cnt ?_ | refine q_brk ?_ | refine q_exc ?_ | refine s_retN ?_ | refine s_cnt ?_ | refine s_brk ?_ | refine s_pass ?_)
  | ((with_reducible show Op _ _); first
    | ((with_reducible apply t_n); (focus walk_at "set"))
    | with_reducible first
      | refine t_cons ?_ | refine t_nil ?_ | refine t_tup ?_ | refine i_tup ?_
      | refine o_lenT ?_
      | refine o_eqS ?_ | refine o_eqI ?_ | refine o_eqB ?_ | refine o_neI ?_ | refine o_neS ?_ | refine o_neB ?_ | refine o_is ?_ | refine o_isNot ?_ | refine o_isT ?_ | refine o_isNT ?_ | refine o_isF ?_ | refine o_isNF ?_
      | refine o_addI ?_ | refine o_sub ?_ | refine o_neg ?_ | refine o_ltI ?_ | refine o_le ?_ | refine o_gt ?_ | refine o_ge ?_ | refine o_iadd ?_
      | refine tr_bl ?_ | refine ty_bl ?_ | refine ty_str ?_ | refine ty_tup ?_ | refine ty_int ?_ | refine o_tupT ?_
      | refine o_lenF ?_ | refine o_lenS ?_ | refine o_intB ?_ | refine o_intI ?_ | refine o_max ?_ | refine o_min ?_ | refine i_str ?_ | refine k_s ?_ | refine k_i ?_
    | ((with_reducible apply o_idxT); (focus first | exact at0 _ _ | exact at1 _ _ _ | exact at2 _ _ _ _ | exact at3 _ _ _ _ _))
    | ((with_reducible apply i_ref); (focus walk_at "sget"))
    | ((with_reducible apply o_getL); (focus walk_at "sget"))
    | ((with_reducible apply o_lenR); (focus walk_at "sget"))
    | ((with_reducible apply o_idxR); (focus walk_at "sget"); (focus first | exact at0 _ _ | exact at1 _ _ _ | exact at2 _ _ _ _))
    | ((with_reducible apply o_tupR); (focus walk_at "sget"))
    | ((with_reducible apply o_listR); (focus walk_at "sget"))
    | ((with_reducible refine o_mod ?_ ?_); (focus omega))
    | ((with_reducible refine o_div ?_ ?_); (focus omega))
    | ((with_reducible refine o_pow ?_ ?_); (focus decide))
    | ((with_reducible refine o_app ?_ ?_); (focus walk_at "len"))
    | walk_at "f")
  | with_reducible first | refine b_is ?_ | refine i_is ?_ | refine s_is ?_ | refine Br.tt ?_ | refine Br.ff ?_ | refine Br.nf ?_ | refine Br.nt ?_ | refine lnew ?_ | refine il_none ?_ | refine il_some ?_ | refine revT ?_ | refine slcT ?_ | refine slcS ?_
  | ((with_reducible refine Br.of_tt ?_ ?_); focus (first | assumption | rfl | exact beq_self_eq_true _ | (simp only [decide_eq_true_eq]; omega)))
  | ((with_reducible refine Br.of_ff ?_ ?_); focus (first | assumption | rfl | (rw [beq_self_eq_true]; rfl) | (simp only [decide_eq_false_iff_not]; omega)))
  | ((with_reducible refine And.intro ?_ ?_); (focus first | ((with_reducible show _ ≤ sizeLine); walk_at "len") | ((with_reducible show lkOk _ _); walk_at "sget")))
  | ((with_reducible refine seek_nx ?_ ?_); (focus rfl); walk_at "off") | ((with_reducible refine seek_cnt ?_ ?_); (focus rfl); walk_at "off") | ((with_reducible refine seek_ret ?_); focus rfl))
local macro_rules | `(tactic| walk_at "b") => `(tactic| with_reducible first | refine b_is ?_ | refine Br.tt ?_ | refine Br.ff ?_ | refine Br.nf ?_ | refine Br.nt ?_ | refine tr_bl ?_)
local macro_rules | `(tactic| walk_at "y") => `(tactic| (fail_if_success (with_reducible refine s_if ?_)); walk_at "x")
local macro_rules | `(tactic| walk_at "f") => `(tactic| with_reducible first | refine w_iEn ?_ | refine w_iZp ?_ | refine zs_two ?_ | refine en_tup ?_ | refine en_frl ?_ | refine z_tup ?_ | refine i_frl ?_ | refine w_revT ?_)
local macro_rules | `(tactic| walk_at "x") => `(tactic| first
  | with_reducible first | refine s_raise1 ?_ | refine s_raise0 ?_ | refine s_try ?_ | refine tq_nx ?_ | refine tq_ret ?_ | refine f_exc ?_ | refine q_offR ?_
  | ((with_reducible refine q_off ?_ ?_); (focus (repeat first | exact OffR.zero | apply OffR.succ))))
/-! Fw215: a kind in the stead of another one; the law. -/
section
local macro_rules | `(tactic| walk_at "f") => `(tactic| ((with_reducible apply o_idxR); (focus walk_at "sget"); (focus first | exact atI_nat (j := 0) rfl | exact atI_nat (j := 1) rfl | exact atI_nat (j := 2) rfl | exact atI_nat (j := 3) rfl | exact atI_nat (j := 4) rfl | exact atI_nat (j := 5) rfl)))
/-! ### books -/
theorem o_neD {P : PV → Prop} {x : PV} {S : Store} (hx : ∀ j, x ≠ .ref j) (h : x.dat = true ∧ x.dep ≤ 190) (q : P (.bl false)) : Op (oNe x x S) P := o_ne (eqS_self (x := x) (by cases x <;> first | rfl | exact absurd rfl (hx _)) h.1 h.2) q
end
end Ev
namespace Ev
open PySem PySem.Spec PyProof.Rows L2
/-! Fw216: dicts walked: keys, values, items; k in d. -/
section
/-! ### the dict that is walked is locked from then on -/
section
variable {X : Cx} {tg e : Expr} {td : TE} {apos cpos : Pos}
def iKeysL (td : TE) : TI := fun σ H R => td σ H fun x H1 => ∃ d, x = .ref d ∧ DLock H1 d fun o kvs H2 => R (Itk d o kvs) H2
theorem pi_keysL (he : PE X e td) : PI X tg e (iKeysL td) := by
  refine ⟨fun pins s σ H R I h => ?_⟩
  refine thn (he.run pins s σ H _ I h) fun u s1 ⟨x, H1, I1, rx, d, ex, q⟩ => ?_
  subst ex
  obtain rfl : u = Value.ref d := rx
  obtain ⟨o, kvs, H2, I2, hd, q⟩ := q.run I1
  obtain ⟨hs, hgd, hx, es, ep, vs, hdt, hsz, kv, hm⟩ := I2.frzK hd
  refine iter_keys hs hgd hx hdt (pi_one (tk := s1.toks) I2 _ (turn_keys _ hdt) ⟨_, Heap.get?_push_size _ rfl, rfl, ?_⟩ q)
  rw [hsz] <;> rfl
end
/-! ### as data -/
section
variable {K : PySem.W.Frag} {cm : CM} {μ : List Addr} {S : Store} {H : Hp}
theorem rv_key {k : Key} (h : kOk k = true) : RV K μ H (kPV k) (kV k) := by
  cases k with
  | inl i => exact .int i
  | inr x => exact .str x (of_decide_eq_true h)
/-- what a walk of the locked dict gives at each turn -/
theorem it_dic {f : Key × PV → PV} {J : Addr → Obj → List (Key × V) → It} {a : Addr} {j : Nat} {o : Obj} {kvs : List (Key × PV)} {kv : List (Key × V)}
    (hs : ∀ i H, (J a o kv).stop i H ↔ (H a = some (.frz o (.dK kv)) ∧ kv.length ≤ i)) (hg : ∀ i H, (J a o kv).go i H ↔ (H a = some (.frz o (.dK kv)) ∧ i < kv.length))
    (hy : ∀ (i : Nat) (μ : List Addr) (S : Store) (H : Hp) (p : Key × PV) (q : Key × V) (v : V) (H' : Hp), RS K cm μ S H → kv[i]? = some q → p.1 = q.1 → kOk p.1 = true → RV K μ H p.2 q.2 → (J a o kv).yld i H v H' → Ext μ H μ H' ∧ RS K cm μ S H' ∧ RV K μ H' (f p) v)
    (R : RS K cm μ S H) (e1 : H a = some (.frz o (.dK kv))) (l : kvs.length ≤ sizeLine) (r : RKs K μ H kvs kv) (ok : (kvs.all fun p => kOk p.1) = true) : ItOk K cm (J a o kv) μ H (kvs.map f, some (.dic j kvs)) := by
  refine ⟨by rw [List.length_map]; exact l, fun i μ' S' H' E R' lk => ⟨fun hi => (hs i H').mpr ⟨E.kz _ _ _ e1, ?_⟩, fun x hx => ?_⟩⟩
  · rw [← r.length]; rw [List.length_map] at hi; exact hi
  · rw [List.getElem?_map, Option.map_eq_some_iff] at hx
    obtain ⟨p, hp, rfl⟩ := hx
    have r2 := r.mono R E
    obtain ⟨q, hq, h1, h2⟩ := paired_get r2 hp
    refine ⟨(hg i H').mpr ⟨E.kz _ _ _ e1, (List.getElem?_eq_some_iff.mp hq).1⟩, fun v H'' y => hy i μ' S' H' p q v H'' R' hq h1 ?_ h2 y⟩
    exact List.all_eq_true.mp ok p (List.mem_of_getElem? hp)
theorem it_keys {a : Addr} {j : Nat} {o : Obj} {kvs : List (Key × PV)} {kv : List (Key × V)} (R : RS K cm μ S H) (e1 : H a = some (.frz o (.dK kv))) (l : kvs.length ≤ sizeLine) (r : RKs K μ H kvs kv) (ok : (kvs.all fun p => kOk p.1) = true) : ItOk K cm (Itk a o kv) μ H (kvs.map fKeys, some (.dic j kvs)) :=
  it_dic (J := Itk) (fun _ _ => Iff.rfl) (fun _ _ => Iff.rfl) (fun i μ S H p q v H' R hq h1 hk h2 y => by
    obtain ⟨rfl, k, w, hkw, rfl⟩ := y
    rw [hq] at hkw
    cases hkw
    refine ⟨Ext.refl, R, ?_⟩
    show RV K μ H' (kPV p.1) _
    rw [h1] at hk ⊢
    exact rv_key hk) R e1 l r ok
end
section
variable {X : Cx} {W : WX} {a b e : Expr} {ea eb ev : TV} {pos apos cpos : Pos} {tg : Expr}
theorem dlock_of {f : Key × PV → PV} {J : Addr → Obj → List (Key × V) → It}
    (hJ : ∀ {μ : List Addr} {S : Store} {H : Hp} {a : Addr} {j : Nat} {o : Obj} {kvs : List (Key × PV)} {kv : List (Key × V)}, RS X.K (cmX X) μ S H → H a = some (.frz o (.dK kv)) → kvs.length ≤ sizeLine → RKs X.K μ H kvs kv → (kvs.all fun p => kOk p.1) = true → ItOk X.K (cmX X) (J a o kv) μ H (kvs.map f, some (.dic j kvs)))
    {μ μ1 : List Addr} {H H1 : Hp} {S1 : Store} {x : PV} {v : V} {R' : It → Hp → Prop} {W0 : XK} (R1 : RS X.K (cmX X) μ1 S1 H1) (rv : RV X.K μ1 H1 x v) (E1 : Ext μ H μ1 H1) (p : PostI X.K (cmX X) μ H (dW f x S1) R' W0) : ∃ d, v = .ref d ∧ DLock H1 d fun o kvs H2 => R' (J d o kvs) H2 := by
  cases rv with
  | @ref j a hj =>
    unfold dW at p
    cases hS : S1[j]? with
    | none => simp only [hS] at p; exact p.elim
    | some ob =>
      simp only [hS] at p
      cases ob with
      | dic kvs =>
        dsimp only at p
        split at p
        · rename_i ok
          obtain ⟨kv, e1, l, r⟩ := R1.ob j a _ hj hS
          refine ⟨a, rfl, .inl ⟨kv, e1, fun o => ?_⟩⟩
          have Ef : Ext μ1 H1 μ1 (upd H1 a (.frz o (.dK kv))) := Ext.put hj (.dK e1)
          have r2 := r.mono R1 Ef
          have R2 : RS X.K (cmX X) μ1 (S1.set j (.dicW kvs)) (upd H1 a (.frz o (.dK kv))) := R1.put hj (.dK e1) ⟨o, kv, upd_same, l, r2⟩
          exact p μ1 _ _ (E1.trans Ef) R2 (hJ R2 upd_same l r2 ok)
        · exact p.elim
      | dicW kvs =>
        dsimp only at p
        split at p
        · rename_i ok
          obtain ⟨o, kv, e1, l, r⟩ := R1.ob j a _ hj hS
          exact ⟨a, rfl, .inr ⟨o, kv, e1, p μ1 H1 _ E1 R1 (hJ R1 e1 l r ok)⟩⟩
        · exact p.elim
      | _ => exact p.elim
  | _ => exact p.elim
theorem si_dkeys (he : PE X e (E_ X W ev)) : PI X tg e (I_ X W (iDic fKeys ev)) := by
  refine PI.imp (pi_keysL he) fun σ H R' h => ?_
  obtain ⟨μ, S, ρ, R, E, p⟩ := h
  refine ⟨μ, S, ρ, R, E, ?_⟩
  unfold iDic at p
  cases hr : ev ρ S with
  | bad => rw [hr] at p; exact p
  | exc x S1 => rw [hr] at p; exact p
  | ok x S1 =>
    rw [hr] at p
    intro μ1 H1 v E1 R1 rv
    exact dlock_of (J := Itk) (fun R e1 l r ok => it_keys R e1 l r ok) R1 rv E1 p
/-! ### k in d -/
theorem dget_of {K : PySem.W.Frag} {cm : CM} {μ : List Addr} {S : Store} {H : Hp} {j : Nat} {a : Addr} {kvs : List (Key × PV)} (R : RS K cm μ S H) (hj : μ[j]? = some a) (h : dicAt S j = some kvs) (k : Key) : ∃ o, DGet H a (kV k) o ∧ o.isSome = (valP kvs k).isSome := by
  obtain ⟨kv, e1, l, r⟩ := dicAt_ok R hj h
  refine ⟨valV kv k, .inl ⟨kv, k, e1, rfl, rfl⟩, ?_⟩
  rcases r.val k with ⟨h1, h2⟩ | ⟨x, v, h1, h2, _⟩ <;> rw [h1, h2] <;> rfl
theorem din_core {neg : Bool} {σ : L2.St} {H : Hp} {Q : VK} (h : E_ X W (vBin (oDIn neg) ea eb) σ H Q) : (E_ X W ea) σ H fun y H1 => (E_ X W eb) σ H1 fun x H2 => ∃ a o, x = .ref a ∧ DGet H2 a y o ∧ Q (.bl (neg != o.isSome)) H2 := by
  obtain ⟨μ, S, ρ, R, E, p⟩ := h
  refine ⟨μ, S, ρ, R, E, Post.step (P := fun μ H r => Post X.K (cmX X) μ H r Q (atσ W σ)) p (fun _ _ h => h) (fun h => h) fun x S1 μ1 H1 v E1 R1 rv p => ?_⟩
  refine ⟨μ1, S1, ρ, R1, E.mono R E1, Post.step (P := fun μ H r => Post X.K (cmX X) μ H r Q (atσ W σ)) (p.ext E1) (fun _ _ h => h) (fun h => h) fun y S2 μ2 H2 w E2 R2 rw p => ?_⟩
  cases rw with
  | @ref j a hj =>
    cases hk : keyOf x with
    | none => simp only [oDIn, hk, ofO_none] at p; exact p.elim
    | some k =>
      have ev := key_V hk rv
      subst ev
      cases hd : dicAt S2 j with
      | none => simp only [oDIn, hk, hd, Option.map_none, ofO_none] at p; exact p.elim
      | some kvs =>
        simp only [oDIn, hk, hd, Option.map_some, ofO_some] at p
        obtain ⟨o, g, e⟩ := dget_of R2 hj hd k
        exact ⟨a, o, rfl, g, by rw [e]; exact p μ2 H2 _ E2 R2 (.bl _)⟩
  | _ => simp only [oDIn, ofO_none] at p; exact p.elim
theorem PC.imp' {op : CmpOp} {t t' : TE} (h : PC X op a b t) (i : ∀ σ H Q, t' σ H Q → t σ H Q) : PC X op a b t' := ⟨fun pins s σ H Q I hw => h.run pins s σ H Q I (i σ H Q hw)⟩
theorem pc_dnotinV (hu : X.A.units + 1 < cLine) (ha : PE X a (E_ X W ea)) (hb : PE X b (E_ X W eb)) : PC X .NotIn a b (E_ X W (vBin (oDIn true) ea eb)) :=
  PC.imp' (pc_dnotin hu ha hb) fun σ H Q h => by
    have q := din_core h
    simp only [Bool.true_bne] at q
    exact q
theorem st_cmpV {op : CmpOp} {v : TV} (h : PC X op a b (E_ X W v)) (h1 : behindInMarks op b = false) : PT X (.Compare a [op] [b] pos) (T_ X W (bBl v)) := by
  refine PT.imp (pt_cmp h h1) fun σ H Q h => ?_
  obtain ⟨μ, S, ρ, R, E, p⟩ := h
  refine ⟨μ, S, ρ, R, E, Post.step (P := fun μ H r => PostB X.K (cmX X) μ H r Q (atσ W σ)) p (fun _ _ h => h) (fun h => h) fun x S1 μ1 H1 v E1 R1 rv p => ?_⟩
  cases rv with
  | bl k => exact ⟨k, rfl, p μ1 H1 E1 R1⟩
  | _ => exact p.elim
end
/-! ### one step each -/
def DWalk (f : Key × PV → PV) (x : PV) (S : Store) (Q : LI → Store → Prop) : Prop := match x with
  | .ref j => match S[j]? with
    | some (.dic kvs) => (kvs.all fun p => kOk p.1) = true ∧ Q (kvs.map f, some (.dic j kvs)) (S.set j (.dicW kvs))
    | some (.dicW kvs) => (kvs.all fun p => kOk p.1) = true ∧ Q (kvs.map f, some (.dic j kvs)) S
    | _ => False
  | _ => False
section
variable {E : PX → Store → Prop} {ρ : Env'} {S : Store} {f : Key × PV → PV} {e : TV} {j : Nat} {kvs : List (Key × PV)}
theorem w_iDic {QI : LI → Store → Prop} (h : W (e ρ S) (fun x S1 => DWalk f x S1 QI) E) : W (iDic f e ρ S) QI E := by
  refine W_bind (W_mono h (fun x S1 h => ?_) fun _ _ h => h)
  unfold DWalk at h
  unfold dW
  split at h
  · split at h
    · rw [if_pos h.1]
      exact h.2
    · rw [if_pos h.1]
      exact h.2
    · exact h.elim
  · exact h.elim
theorem dwalk_n {Q : LI → Store → Prop} (g : S[j]? = some (.dic kvs)) (ok : (kvs.all fun p => kOk p.1) = true) (q : Q (kvs.map f, some (.dic j kvs)) (S.set j (.dicW kvs))) : DWalk f (.ref j) S Q := by
  unfold DWalk
  dsimp only
  rw [g]
  exact ⟨ok, q⟩
theorem o_dIn {P : PV → Prop} {neg : Bool} {x : PV} {k : Key} (hk : keyOf x = some k) (g : dicAt S j = some kvs) (q : P (.bl (neg != (valP kvs k).isSome))) : Op (oDIn neg x (.ref j) S) P := Op.of (by simp only [oDIn, hk, g, Option.map_some]) q
end
end
/-! Fw217: dicts whose keys are tuples, nested. -/
section
section
variable {X : Cx} {pins : List (Addr × Obj)} {σ : L2.St} {H : Hp} {s : Shared} {μ : List Addr}
mutual
theorem nk_is (I : Inv X pins σ H s) : ∀ {x : PV} {v : V} {u : Value} {n : NestedKey}, RV X.K μ H x v → RelV v u → x.nk = some n → NestedIs s.heap n u
  | _, _, u, n, .non, hu, hn => by
    obtain rfl : u = Value.none := hu
    cases hn
    exact .none
  | _, _, u, n, .bl b, hu, hn => by
    obtain rfl : u = Value.bool b := hu
    cases hn
    exact .bool rfl
  | _, _, u, n, .int i, hu, hn => by
    obtain ⟨t, rfl⟩ : ∃ t, u = Value.int i t := hu
    cases hn
    exact .int i t
  | _, _, u, n, .str x _, hu, hn => by
    obtain ⟨t, rfl⟩ : ∃ t, u = Value.str x t := hu
    cases hn
    exact .text x t
  | _, _, u, n, @RV.tup _ _ _ a xs vs sq l r, hu, hn => by
    obtain rfl : u = Value.ref a := hu
    simp only [PV.nk, Option.map_eq_some_iff] at hn
    obtain ⟨ns, hns, rfl⟩ := hn
    obtain ⟨its, rv, ⟨o, ho, hc, m, hd⟩, hz⟩ := I.tuple sq.sq
    exact .tup ho hc hd (by rw [List.toList_toArray]; exact nks_is I r rv hns)
  | _, _, _, _, .ref _, _, hn => by simp [PV.nk] at hn
  | _, _, _, _, .frl _ _ _, _, hn => by simp [PV.nk] at hn
theorem nks_is (I : Inv X pins σ H s) : ∀ {xs : List PV} {vs : List V} {us : List Value} {ns : List NestedKey}, RVs X.K μ H xs vs → Vals vs us → PV.nks xs = some ns → NestedAll s.heap ns us
  | _, _, _, _, .nil, hu, hn => by
    cases hu
    cases hn
    exact .nil
  | x :: xs, _, _, ns, .cons h t, hu, hn => by
    cases hu with
    | cons h1 h2 =>
      simp only [PV.nks] at hn
      cases e1 : x.nk with
      | none => rw [e1] at hn; cases hn
      | some k =>
        cases e2 : PV.nks xs with
        | none => rw [e1, e2] at hn; cases hn
        | some ks =>
          rw [e1, e2] at hn
          cases hn
          exact .cons (nk_is I h h1 e1) (nks_is I t h2 e2)
end
/-- the dict at a, perhaps locked -/
def NA (X : Cx) (H : Hp) (a : Addr) (xs : List (NestedKey × Addr × Value)) : Prop := H a = some (dN X.prog X.w a xs) ∨ ∃ o, H a = some (.frz o (dN X.prog X.w a xs))
theorem paired_mem2 {α β : Type} {P : α → β → Prop} {xs : List α} {ys : List β} (h : Paired P xs ys) : ∀ {y : β}, y ∈ ys → ∃ x ∈ xs, P x y := by
  induction h with
  | nil => intro y hy; cases hy
  | cons h t ih =>
    intro y hy
    rcases List.mem_cons.mp hy with rfl | hy
    · exact ⟨_, List.mem_cons_self, h⟩
    · obtain ⟨x, hx, p⟩ := ih hy
      exact ⟨x, List.mem_cons_of_mem _ hx, p⟩
theorem na_of (I : Inv X pins σ H s) {a : Addr} {xs : List (NestedKey × Addr × Value)} {kvs : List (PV × PV)} (h : NA X H a xs) (r : RNs X.K μ H kvs xs) : s.heap.DictOfH (nestedKind X.prog X.w) a xs := by
  have φ : ∃ o es ep, s.heap.get? a = some o ∧ o.ExactDict ∧ o.data = .dict es ep ∧ es.toList = xs.map (entryOfKey (nestedKind X.prog X.w)) ∧ (xs.map (·.1)).Nodup := by
    rcases h with h | ⟨o, h⟩
    · exact (I.hok a _ h).1
    · exact (I.hok a _ h).2.1
  obtain ⟨o, es, ep, h1, h2, h3, h4, h5⟩ := φ
  refine ⟨o, es, ep, h1, h2, h3, h4, fun x hx => ?_, h5⟩
  obtain ⟨p, hp, q1, q2, q3, _⟩ := paired_mem2 r hx
  exact ⟨nk_is I q3 rfl q1, q2⟩
theorem dN_ok {P : Program} {w : World} {H' : Hp} {h' : Heap} {a : Addr} {xs : List (NestedKey × Addr × Value)} (d : h'.DictOfH (nestedKind P w) a xs) : ObjOk P w H' h' a (dN P w a xs) := by
  obtain ⟨q, es, ep, hq, h2, h3, h4, _, h5⟩ := d
  exact ⟨⟨q, es, ep, hq, h2, h3, h4, h5⟩, ⟨q, hq⟩, fun h1 h2 ⟨o, es, ep, a1, a2⟩ k => ⟨o, es, ep, k o a1, a2⟩⟩
end
/-! ### as data -/
theorem keyN_ok {K : PySem.W.Frag} {μ : List Addr} {H : Hp} {x : PV} {v : V} {n : NestedKey} (h : keyN x = some n) (r : RV K μ H x v) : x.nk = some n ∧ n.depth ≤ 8 ∧ ∃ b, v = .ref b := by
  cases r with
  | tup s l r =>
    unfold keyN at h
    dsimp only at h
    split at h
    · rename_i m e
      split at h
      · rename_i hd; cases h; exact ⟨e, hd, _, rfl⟩
      · cases h
    · cases h
  | _ => cases h
section
variable {K : PySem.W.Frag} {cm : CM} {μ : List Addr} {S : Store} {H : Hp}
theorem dicNAt_ok {X : Cx} {j : Nat} {a : Addr} {kvs : List (PV × PV)} (R : RS X.K (cmX X) μ S H) (hj : μ[j]? = some a) (h : dicNAt S j = some kvs) : ∃ xs, NA X H a xs ∧ (a == sysModules) = false ∧ kvs.length ≤ sizeLine ∧ RNs X.K μ H kvs xs := by
  unfold dicNAt at h
  cases hS : S[j]? with
  | none => rw [hS] at h; cases h
  | some ob =>
    rw [hS] at h
    cases ob with
    | dicN k =>
      cases h
      obtain ⟨xs, e1, n, l, r⟩ := R.ob j a _ hj hS
      exact ⟨xs, .inl e1, n, l, r⟩
    | dicM k =>
      cases h
      obtain ⟨o, xs, e1, n, l, r⟩ := R.ob j a _ hj hS
      exact ⟨xs, .inr ⟨o, e1⟩, n, l, r⟩
    | _ => cases h
theorem length_putN (kvs : List (PV × PV)) (k : PV) (n : NestedKey) (y : PV) : (putN kvs k n y).length ≤ kvs.length + 1 := by
  unfold putN; split <;> simp
end
section
variable {X : Cx} {W : WX} {a b c d e o i : Expr} {ea eb ec ed ev vo vi ve : TV} {pos apos cpos tpos : Pos} {tg : Expr}
theorem nroom (hu : X.A.units + 195 < cLine) : (nestedKind X.prog X.w).room X.A.in1 := by
  show X.A.units + 1 + 8 < cLine
  omega
/-! ### d[k] -/
theorem os_nidx (hu : X.A.units + 195 < cLine) : IxR X (rO X.K (cmX X) oNIdx) := by
  intro value slice pins s σ H x y v u Q I rx ry h hs
  obtain ⟨μ, S, p, i, z, R, ra, rb, hf, q⟩ := h
  cases ra with
  | @ref j ad hj =>
    simp only [oNIdx] at hf
    cases hk : keyN i with
    | none => rw [hk] at hf; cases hf
    | some n =>
      rw [hk] at hf
      dsimp only at hf
      cases e : dicNAt S j with
      | none => rw [e] at hf; cases hf
      | some kvs =>
        rw [e] at hf
        simp only [Option.bind_some] at hf
        obtain ⟨k1, k2, bb, rfl⟩ := keyN_ok hk rb
        obtain ⟨xs, na, _, _, r⟩ := dicNAt_ok R hj e
        have D := na_of I na r
        cases rx
        cases ry
        rcases r.val n with ⟨h1, _⟩ | ⟨x', p', u', h1, h2, ru, rv⟩
        · rw [h1] at hf; cases hf
        · rw [h1] at hf
          cases hf
          exact tail_any D.typeIs PySem.F.slot_dict_getitem.lookup (wpAny_getItem_heap (nroom hu) ⟨nk_is I rb rfl k1, k2⟩ D h2 ⟨u', H, I.tok _, ru, q H _ Ext.refl R rv⟩) hs
  | _ => simp [oNIdx] at hf
theorem sv_nidx (hu : X.A.units + 195 < cLine) (ha : PE X a (E_ X W ea)) (hb : PE X b (E_ X W eb)) (hs : PlainIx b) : PE X (.Subscript a b pos) (E_ X W (vBin oNIdx ea eb)) :=
  PE.imp (pe_ix (os_nidx hu) ha hb hs) fun _ _ _ h => vBin_imp h
/-! ### d[k] = v -/
def rSetN (K : PySem.W.Frag) (cm : CM) : V → V → V → Hp → (Hp → Prop) → Prop := fun o i v H Q => ∃ μ S x k y S', RS K cm μ S H ∧ RV K μ H x o ∧ RV K μ H k i ∧ RV K μ H y v ∧ storeN x k y S = some S' ∧
  ∀ H', Ext μ H μ H' → RS K cm μ S' H' → Q H'
theorem set_nest (hu : X.A.units + 195 < cLine) : PSet X (rSetN X.K (cmX X)) := by
  intro pins s σ H o i v ov iv u Q I ro ri rv h
  obtain ⟨μ, S, x, k, y, S', R, r1, r2, r3, he, q⟩ := h
  cases r1 with
  | @ref j a hj =>
    simp only [storeN] at he
    cases hk : keyN k with
    | none => rw [hk] at he; cases he
    | some n =>
      rw [hk] at he
      dsimp only at he
      cases e : S[j]? with
      | none => rw [e] at he; cases he
      | some ob =>
        rw [e] at he
        cases ob with
        | dicN kvs =>
          dsimp only at he
          split at he
          · rename_i hl
            cases he
            obtain ⟨k1, k2, bb, rfl⟩ := keyN_ok hk r2
            obtain ⟨xs, e1, nm, l, r⟩ := R.ob j a _ hj e
            have D := na_of I (.inl e1) r
            cases ro
            cases ri
            have hz : xs.length ≤ sizeLine := by rw [← r.length]; exact l
            refine wpAny_setItem_heap (hsz := hz) (nroom hu) ⟨nk_is I r2 rfl k1, k2⟩ D fun h' D' hs => ?_
            have Ep : Ext μ H μ (upd H a (dN X.prog X.w a (storedH xs n bb u))) := Ext.put hj (.dN e1)
            have he : ∃ q, h'.get? a = some q := let ⟨q, _, _, hq, _⟩ := D'; ⟨q, hq⟩
            refine ⟨_, d_write I (by rw [e1]; exact True.intro) hs he (dN_ok D'), q _ Ep (R.put hj (.dN e1) ⟨_, upd_same, nm, ?_, (r.put k1 k2 r2 rv r3).mono' R Ep.up⟩)⟩
            have := length_putN kvs k n y
            omega
          · cases he
        | _ => cases he
  | _ => simp [storeN] at he
theorem ss_subN (hu : X.A.units + 195 < cLine) (he : PE X e (E_ X W ve)) (ho : PE X o (E_ X W vo)) (hi : PE X i (E_ X W vi))
    (ha : ∀ v, assign (.Subscript o i tpos) X.env v = (do
      let ov ← holding [v] (eval o X.env)
      let iv ← holding [v, ov] (eval i X.env)
      standAt tpos
      holding [v, ov, iv] (setItem ov iv v)
      release [v, ov, iv] []) := by intro _; rfl) (hs : swapsWithSole [.Subscript o i tpos] e pos.line X.env = pure false := by rfl) (hw : swappedStores [.Subscript o i tpos] e X.env = pure none := by rfl)
    (h1 : (assignEach [.Subscript o i tpos] X.env).map (·.2) = [assign (.Subscript o i tpos) X.env] := by rfl) : PS X (.Assign [.Subscript o i tpos] e pos) (S_ X W (sSubN vo vi ve)) := by
  refine PS.imp (ps_asg he (pg_sub ho hi (set_nest hu) ha) hs hw h1) fun D σ H h => ?_
  obtain ⟨μ, S, ρ, R, E, p⟩ := h
  refine ⟨μ, S, ρ, R, E, sr_step E R p fun y S1 μ1 H1 v E1 R1 rv p => ?_⟩
  refine ⟨μ1, S1, ρ, R1, E.mono R E1, sr_step (D := D) (E.mono R E1) R1 (p.ext E1) fun x S2 μ2 H2 w E2 R2 rw p => ?_⟩
  refine ⟨μ2, S2, ρ, R2, (E.mono R E1).mono R1 E2, sr_step (D := D) ((E.mono R E1).mono R1 E2) R2 (p.ext E2) fun k S3 μ3 H3 w3 E3 R3 r3 p => ?_⟩
  cases hst : storeN x k y S3 with
  | none => rw [hst] at p; exact p.elim
  | some S' =>
    rw [hst] at p
    exact ⟨μ3, S3, x, k, y, S', R3, rw.mono R2 E3, r3, (rv.mono R1 E2).mono R2 E3, hst, fun H' E4 R4 => p μ3 H' σ (E3.trans E4) R4 ((((E.mono R E1).mono R1 E2).mono R2 E3).mono R3 E4)⟩
/-! ### k in d -/
theorem pc_nin_core {neg : Bool} {op : CmpOp} (hu : X.A.units + 195 < cLine) (ha : PE X a (E_ X W ea)) (hb : PE X b (E_ X W eb))
    (hop : ∀ {s : Shared} {k ad : Addr} {n : NestedKey} {xs : List (NestedKey × Addr × Value)} {Q : Value → Shared → Prop}, (nestedKind X.prog X.w).is s.heap n k → (ad == sysModules) = false → s.heap.DictOfH (nestedKind X.prog X.w) ad xs → (∀ t, Q (.bool (neg != (atKey xs n).isSome)) { s with toks := t }) → wpAny (model X.prog X.w) X.A (compareOp op (.ref k) (.ref ad)) Q X.xe s) :
    PC X op a b (E_ X W (vBin (oNIn neg) ea eb)) := by
  refine ⟨fun pins s σ H Q I h => ?_⟩
  obtain ⟨μ, S, ρ, R, E, p⟩ := h
  refine thn (ha.run pins s σ H (fun v H1 => ∃ μ1 S1 x, Ext μ H μ1 H1 ∧ RS X.K (cmX X) μ1 S1 H1 ∧ RV X.K μ1 H1 x v ∧ Post X.K (cmX X) μ H ((eb ρ S1).bind fun y S => ofO (oNIn neg x y S) S) Q (atσ W σ)) I ⟨μ, S, ρ, R, E, Post.step (P := fun μ H r => Post X.K (cmX X) μ H r Q (atσ W σ)) p (fun _ _ h => h) (fun h => h) fun x S1 μ1 H1 v E1 R1 rv p => ⟨μ1, S1, x, E1, R1, rv, p⟩⟩) fun iv s1 ⟨y, H1, I1, ry, μ1, S1, x, E1, R1, rx, p⟩ => ?_
  refine thn (hb.run pins s1 σ H1 (fun w H2 => ∃ μ2 S2 z, Ext μ1 H1 μ2 H2 ∧ RS X.K (cmX X) μ2 S2 H2 ∧ RV X.K μ2 H2 z w ∧ RV X.K μ2 H2 x y ∧ Post X.K (cmX X) μ1 H1 (ofO (oNIn neg x z S2) S2) Q (atσ W σ)) I1 ⟨μ1, S1, ρ, R1, E.mono R E1, Post.step (P := fun μ H r => Post X.K (cmX X) μ H r Q (atσ W σ)) (p.ext E1) (fun _ _ h => h) (fun h => h) fun z S2 μ2 H2 w E2 R2 rw p => ⟨μ2, S2, z, E2, R2, rw, rx.mono R1 E2, p⟩⟩) fun u s2 ⟨w, H2, I2, rw, μ2, S2, z, E2, R2, rz, rx2, p⟩ => ?_
  cases rz with
  | @ref j ad hj =>
    cases hk : keyN x with
    | none => simp only [oNIn, hk, ofO_none] at p; exact p.elim
    | some n =>
      cases hd : dicNAt S2 j with
      | none => simp only [oNIn, hk, hd, Option.map_none, ofO_none] at p; exact p.elim
      | some kvs =>
        simp only [oNIn, hk, hd, Option.map_some, ofO_some] at p
        obtain ⟨k1, k2, bb, rfl⟩ := keyN_ok hk rx2
        obtain ⟨xs, na, nm, _, r⟩ := dicNAt_ok R2 hj hd
        have D := na_of I2 na r
        cases rw
        cases ry
        refine hop ⟨nk_is I2 rx2 rfl k1, k2⟩ nm D fun t => ?_
        have e : (atKey xs n).isSome = (valN kvs n).isSome := by
          rcases r.val n with ⟨h1, h2⟩ | ⟨x', p', u', h1, h2, _⟩ <;> rw [h1, h2] <;> rfl
        rw [e]
        exact ⟨.bl _, H2, I2.tok _, rfl, p μ2 H2 _ E2 R2 (.bl _)⟩
  | _ => simp only [oNIn, ofO_none] at p; exact p.elim
theorem pc_nnotin (hu : X.A.units + 195 < cLine) (ha : PE X a (E_ X W ea)) (hb : PE X b (E_ X W eb)) : PC X .NotIn a b (E_ X W (vBin (oNIn true) ea eb)) :=
  pc_nin_core hu ha hb fun hk hd D q => wpAny_notIn_heap (nroom hu) hk hd D (by simpa using q _)
/-! ### {} -/
theorem pe_dnewN {X : Cx} {pos : Pos} : PE X (.Dict [] [] pos) (fun _ H Q => ∀ p, H p = none → (p == sysModules) = false → Q (.ref p) (upd H p (dN X.prog X.w p []))) := ⟨fun pins s σ H Q I h =>
  wpAny_Dict_empty ⟨.ref s.heap.objs.size, _, I.laid (a := s.heap.objs.size) (o := dN X.prog X.w s.heap.objs.size []) (t' := s.toks) (fun _ _ q => Heap.get?_push_of_some _ q) (Nat.le_refl _)
    ⟨⟨_, #[], 0, Heap.get?_push_size _ rfl, ⟨rfl, rfl, rfl⟩, rfl, rfl, List.nodup_nil⟩, ⟨_, Heap.get?_push_size _ rfl⟩, fun h1 h2 ⟨o, es, ep, a1, a2⟩ k => ⟨o, es, ep, k o a1, a2⟩⟩, rfl, h _ (I.hok.fresh (Nat.le_refl _)) (beq_eq_false_iff_ne.mpr (Ne.symm (Nat.ne_of_lt I.big)))⟩⟩
theorem sv_dicN0 : PE X (.Dict [] [] pos) (E_ X W vDicN0) := by
  refine PE.imp pe_dnewN fun σ H Q h => ?_
  obtain ⟨μ, S, ρ, R, E, p⟩ := h
  intro q hq nm
  refine p (μ ++ [q]) _ _ (Ext.grow hq) (R.grow hq ⟨[], upd_same, nm, Nat.zero_le _, .nil⟩) (.ref ?_)
  rw [List.getElem?_append_right (by rw [R.len]; exact Nat.le_refl _), R.len, Nat.sub_self]; rfl
end
end
/-! Fw218: list(d), d == {}, {(k, ..): v}. -/
section
section
variable {X : Cx} {W : WX} {a b e : Expr} {ea eb ev : TV} {pos apos cpos : Pos}
/-! ### list(d) -/
/-! ### d == {} -/
/-! ### {(k, ..): v} -/
def vDicN1 (a b : TV) : TV := fun ρ S => (a ρ (S ++ [.dicN []])).bind fun k S1 => (b ρ S1).bind fun v S2 => match storeN (.ref S.length) k v S2 with
  | some S3 => .ok (.ref S.length) S3
  | none => .bad
end
end
end Ev
namespace Ev
open PySem PySem.Spec PyProof.Rows L2 SX
/-! Fw219: sorted(d), d a dict whose keys are tuples. -/
local macro_rules | `(tactic| walk_at "w") => `(tactic| first
  | (with_reducible apply s_set; focus (repeat first | exact SetR.zero | apply SetR.succ))
  | (with_reducible apply w_get; focus (repeat first | exact GetR.zero | apply GetR.succ))
  | with_reducible first
  | refine s_seqN ?_ | refine s_seq ?_ | refine q_nx ?_ | refine q_ret ?_ | refine q_brk ?_ | refine q_cnt ?_ | refine q_exc ?_
  | refine s_nil ?_ | refine s_pass ?_ | refine s_brk ?_ | refine s_cnt ?_ | refine s_expr ?_ | refine s_ret ?_ | refine s_retN ?_ | refine s_if ?_ | refine s_unp ?_ | refine s_sub ?_ | refine s_for ?_
  | refine w_c ?_ | (refine w_str ?_ ?_; decide +kernel) | refine w_bin ?_ | refine w_un ?_ | refine w_chn ?_ | refine w_bV ?_ | refine w_bBl ?_ | refine w_bAnd ?_ | refine w_bOr ?_ | refine w_bNot ?_ | refine w_bYes ?_
  | refine w_vAnd ?_ | refine w_vOr ?_ | refine w_vNot ?_ | refine w_vIf ?_ | refine w_nil ?_ | refine w_cons ?_ | refine w_tup ?_ | refine w_disp ?_ | refine w_new ?_ | refine lnew ?_ | refine w_oNone ?_ | refine w_oSome ?_ | refine w_slc ?_ | refine w_lslc ?_ | refine slcT ?_ | refine slcS ?_
  | refine w_call ?_ | refine w_callL ?_ | refine w_lcallL ?_ | refine w_lcallN ?_ | refine w_isi ?_ | refine w_app ?_ | refine w_app0 ?_ | refine w_lval ?_ | refine w_cat ?_ | refine w_eqL ?_ | refine w_lm ?_ | refine w_ext ?_ | refine w_sm ?_ | refine w_sm0 ?_ | refine w_lsm ?_ | refine w_smL ?_ | refine w_dic0 ?_ | refine w_dic1 ?_ | refine w_iV ?_ | refine w_iL ?_ | refine il_none ?_ | refine il_some ?_ | refine w_rng ?_ | refine w_comp ?_ | refine w_rev ?_ | refine w_lenSet ?_ | refine w_extV ?_
  | refine o_addI ?_ | refine o_iadd ?_ | refine o_sub ?_ | refine o_neg ?_ | refine o_ltI ?_ | refine o_le ?_ | refine o_gt ?_ | refine o_ge ?_ | refine o_is ?_ | refine o_isNot ?_ | refine o_lenT ?_ | refine o_lenF ?_ | refine o_lenS ?_ | refine o_intB ?_ | refine o_intI ?_ | refine o_max ?_ | refine o_min ?_ | refine o_tupT ?_ | refine o_eqI ?_ | refine o_eqS ?_ | refine o_eqB ?_
  | refine b_is ?_ | refine i_is ?_ | refine s_is ?_ | refine i_tup ?_ | refine i_str ?_ | refine tr_bl ?_ | refine ty_bl ?_ | refine ty_str ?_ | refine ty_tup ?_ | refine ty_int ?_ | refine k_s ?_ | refine k_i ?_
  | refine Br.tt ?_ | refine Br.ff ?_ | refine Br.nf ?_ | refine Br.nt ?_ | refine f_ret ?_ | refine f_nx ?_ | refine f_body ?_)
local macro_rules | `(tactic| walk_at "sget") => `(tactic| first
  | assumption | exact get_app _ _ _ | exact trivial
  | (refine get_set ?_; walk_at "sget") | (refine get_app_lt ?_; walk_at "sget"))
local macro_rules | `(tactic| walk_at "len") => `(tactic| first
  | exact Nat.zero_le _ | exact len_le rfl
  | (have hbig := sizeLine_eq; simp only [List.length_map, List.length_cons, List.length_nil, List.length_append, List.length_take, List.length_drop, List.length_reverse, List.length_set, List.length_range]; omega))
local macro_rules | `(tactic| walk_at "off") => `(tactic| focus rfl)
local macro_rules | `(tactic| walk_at "e") => `(tactic| simp only [wipeE, reset, List.foldl_cons, List.foldl_nil, List.set_cons_succ, List.set_cons_zero])
local macro_rules | `(tactic| walk_at "kp") => `(tactic| first | assumption | exact Kp.refl _ | exact Kp.app _ _ | (refine Kp.trans ?_ (Kp.app _ _); walk_at "kp"))
local macro_rules | `(tactic| walk_at "set") => `(tactic| first | exact setR0 | exact setR1 | exact setR2 | exact setR3 | exact setR4 | exact setR5 | exact setR6 | exact setR7 | exact setR8 | exact setR9 | exact setR10 | exact setR11 | exact setR12 | (repeat first | exact SetR.zero | apply SetR.succ))
local macro_rules | `(tactic| walk_at "f") => `(tactic| fail)
local macro_rules | `(tactic| walk_at "x") => `(tactic| first
  | ((with_reducible show W _ _ _); first
    | ((with_reducible apply w_var); (focus exact rfl))
    | with_reducible first | refine w_c ?_ | refine w_cons ?_ | refine w_nil ?_ | refine w_bin ?_ | refine w_app ?_ | refine w_call ?_ | refine w_tup ?_ | refine w_bBl ?_ | refine w_new ?_ | refine w_iV ?_ | refine w_comp ?_ | refine w_iL ?_ | refine w_bV ?_ | refine w_disp ?_ | refine w_vAnd ?_ | refine w_vOr ?_ | refine w_bAnd ?_ | refine w_bOr ?_ | refine w_bNot ?_ | refine w_bYes ?_ | refine w_isi ?_ | refine w_callL ?_ | refine w_lval ?_ | refine w_lm ?_ | refine w_chn ?_ | refine w_un ?_ | refine w_oNone ?_ | refine w_oSome ?_ | refine w_slc ?_ | refine w_lslc ?_ | refine w_rng ?_ | refine w_vNot ?_ | refine w_vIf ?_ | refine w_cat ?_ | refine w_eqL ?_ | refine w_lenSet ?_ | refine w_app0 ?_ | refine w_extV ?_ | refine w_ext ?_ | refine w_lcallL ?_ | refine w_lcallN ?_ | refine w_sm ?_ | refine w_sm0 ?_ | refine w_lsm ?_ | refine w_smL ?_ | refine w_dic0 ?_ | refine w_dic1 ?_ | refine w_rev ?_ | refine f_ret ?_ | refine f_nx ?_
    | ((with_reducible refine g_keep ?_ ?_ ?_); (focus walk_at "kp"); (focus rfl))
    | (with_reducible refine w_str ?_ ?_; decide +kernel)
    | walk_at "f"
    | with_reducible refine f_body ?_)
  | ((with_reducible show WS _ _); first
    | with_reducible first | refine s_seqN ?_ | refine s_seq ?_ | refine q_nx ?_
    | ((with_reducible apply s_set); (focus walk_at "set"))
    | with_reducible first | refine s_expr ?_ | refine s_ret ?_ | refine s_if ?_ | refine s_nil ?_ | refine q_ret ?_ | refine s_unp ?_ | refine s_sub ?_ | refine s_for ?_ | refine q_cnt ?_ | refine q_brk ?_ | refine q_exc ?_ | refine s_retN ?_ | refine s_cnt ?_ | refine s_brk ?_ | refine s_pass ?_)
  | ((with_reducible show Op _ _); first
    | ((with_reducible apply t_n); (focus walk_at "set"))
    | with_reducible first
      | refine t_cons ?_ | refine t_nil ?_ | refine t_tup ?_ | refine i_tup ?_
      | refine o_lenT ?_
      | refine o_eqS ?_ | refine o_eqI ?_ | refine o_eqB ?_ | refine o_neI ?_ | refine o_neS ?_ | refine o_neB ?_ | refine o_is ?_ | refine o_isNot ?_ | refine o_isT ?_ | refine o_isNT ?_ | refine o_isF ?_ | refine o_isNF ?_
      | refine o_addI ?_ | refine o_sub ?_ | refine o_neg ?_ | refine o_ltI ?_ | refine o_le ?_ | refine o_gt ?_ | refine o_ge ?_ | refine o_iadd ?_
      | refine tr_bl ?_ | refine ty_bl ?_ | refine ty_str ?_ | refine ty_tup ?_ | refine ty_int ?_ | refine o_tupT ?_
      | refine o_lenF ?_ | refine o_lenS ?_ | refine o_intB ?_ | refine o_intI ?_ | refine o_max ?_ | refine o_min ?_ | refine i_str ?_ | refine k_s ?_ | refine k_i ?_
    | ((with_reducible apply o_idxT); (focus first | exact at0 _ _ | exact at1 _ _ _ | exact at2 _ _ _ _ | exact at3 _ _ _ _ _))
    | ((with_reducible apply i_ref); (focus walk_at "sget"))
    | ((with_reducible apply o_getL); (focus walk_at "sget"))
    | ((with_reducible apply o_lenR); (focus walk_at "sget"))
    | ((with_reducible apply o_idxR); (focus walk_at "sget"); (focus first | exact at0 _ _ | exact at1 _ _ _ | exact at2 _ _ _ _))
    | ((with_reducible apply o_tupR); (focus walk_at "sget"))
    | ((with_reducible apply o_listR); (focus walk_at "sget"))
    | ((with_reducible refine o_mod ?_ ?_); (focus omega))
    | ((with_reducible refine o_div ?_ ?_); (focus omega))
    | ((with_reducible refine o_pow ?_ ?_); (focus decide))
    | ((with_reducible refine o_app ?_ ?_); (focus walk_at "len"))
    | walk_at "f")
  | with_reducible first | refine b_is ?_ | refine i_is ?_ | refine s_is ?_ | refine Br.tt ?_ | refine Br.ff ?_ | refine Br.nf ?_ | refine Br.nt ?_ | refine lnew ?_ | refine il_none ?_ | refine il_some ?_ | refine revT ?_ | refine slcT ?_ | refine slcS ?_
  | ((with_reducible refine Br.of_tt ?_ ?_); focus (first | assumption | rfl | exact beq_self_eq_true _ | (simp only [decide_eq_true_eq]; omega)))
  | ((with_reducible refine Br.of_ff ?_ ?_); focus (first | assumption | rfl | (rw [beq_self_eq_true]; rfl) | (simp only [decide_eq_false_iff_not]; omega)))
  | ((with_reducible refine And.intro ?_ ?_); (focus first | ((with_reducible show _ ≤ sizeLine); walk_at "len") | ((with_reducible show lkOk _ _); walk_at "sget")))
  | ((with_reducible refine seek_nx ?_ ?_); (focus rfl); walk_at "off") | ((with_reducible refine seek_cnt ?_ ?_); (focus rfl); walk_at "off") | ((with_reducible refine seek_ret ?_); focus rfl))
local macro_rules | `(tactic| walk_at "b") => `(tactic| with_reducible first | refine b_is ?_ | refine Br.tt ?_ | refine Br.ff ?_ | refine Br.nf ?_ | refine Br.nt ?_ | refine tr_bl ?_)
local macro_rules | `(tactic| walk_at "y") => `(tactic| (fail_if_success (with_reducible refine s_if ?_)); walk_at "x")
local macro_rules | `(tactic| walk_at "f") => `(tactic| with_reducible first | refine w_iEn ?_ | refine w_iZp ?_ | refine zs_two ?_ | refine en_tup ?_ | refine en_frl ?_ | refine z_tup ?_ | refine i_frl ?_ | refine w_revT ?_)
local macro_rules | `(tactic| walk_at "x") => `(tactic| first
  | with_reducible first | refine s_raise1 ?_ | refine s_raise0 ?_ | refine s_try ?_ | refine tq_nx ?_ | refine tq_ret ?_ | refine f_exc ?_ | refine q_offR ?_
  | ((with_reducible refine q_off ?_ ?_); (focus (repeat first | exact OffR.zero | apply OffR.succ))))
/-! Fw220: what one kind answers where another stands: the dicts of it. -/
section
local macro_rules | `(tactic| walk_at "f") => `(tactic| (with_reducible first | refine w_lcallL ?_ | refine w_lcallN ?_ | refine w_dget1 ?_ | refine w_iDic ?_))
/-! ### rules -/
section
variable {P : PV → Prop} {S : Store} {E : PX → Store → Prop} {ρ : Env'} {Q : PV → Store → Prop}
theorem o_nidx {j : Nat} {kvs : List (PV × PV)} {k y : PV} {n : NestedKey} (hk : keyN k = some n) (g : dicNAt S j = some kvs) (h : valN kvs n = some y) (q : P y) : Op (oNIdx (.ref j) k S) P :=
  Op.of (by simp only [oNIdx, hk, g, Option.bind_some, h]) q
theorem o_nIn {neg : Bool} {j : Nat} {kvs : List (PV × PV)} {k : PV} {n : NestedKey} (hk : keyN k = some n) (g : dicNAt S j = some kvs) (q : P (.bl (neg != (valN kvs n).isSome))) : Op (oNIn neg k (.ref j) S) P :=
  Op.of (by simp only [oNIn, hk, g, Option.map_some]) q
theorem w_dicN1 {a b : TV} (h : W (a ρ (S ++ [.dicN []])) (fun k S1 => W (b ρ S1) (fun v S2 => Op (storeN (.ref S.length) k v S2) fun S3 => Q (.ref S.length) S3) E) E) : W (vDicN1 a b ρ S) Q E := by
  refine W_bind (W_mono h (fun k S1 h => W_bind (W_mono h (fun v S2 h => ?_) fun _ _ h => h)) fun _ _ h => h)
  cases hf : storeN (.ref S.length) k v S2 with
  | none => rw [hf] at h; exact h.elim
  | some u => rw [hf] at h; exact h
theorem s_subN {o i v : TV} {Q : SR → Prop} (q : W (v ρ S) (fun y S => W (o ρ S) (fun x S => W (i ρ S) (fun k S => Op (storeN x k y S) fun S' => Q (.nx ρ S')) fun x S => Q (.exc x ρ S)) fun x S => Q (.exc x ρ S)) fun x S => Q (.exc x ρ S)) : WS (sSubN o i v ρ S) Q := by
  refine WS_sr (W_mono q (fun y S q => WS_sr (W_mono q (fun x S q => WS_sr (W_mono q (fun k S q => ?_) fun _ _ q => q)) fun _ _ q => q)) fun _ _ q => q)
  cases hf : storeN x k y S with
  | none => rw [hf] at q; exact q.elim
  | some u => rw [hf] at q; exact q
theorem o_stN {P : Store → Prop} {j : Nat} {kvs : List (PV × PV)} {k y : PV} {n : NestedKey} (hk : keyN k = some n) (g : S[j]? = some (.dicN kvs)) (hl : kvs.length < sizeLine) (q : P (S.set j (.dicN (putN kvs k n y)))) : Op (storeN (.ref j) k y S) P :=
  Op.of (by simp only [storeN, hk, g]; rw [if_pos hl]) q
end
/-! ### nexts_of -/
end
/-! Fw221: what is amiss, by a deed. -/
/-! Fw222: all that is amiss; the steps that two kinds take together. -/
/-! Fw223: the steps that two kinds take together. -/
/-! Fw224: which kinds hand something back. -/
section
local macro_rules | `(tactic| walk_at "f") => `(tactic| (with_reducible first | refine w_lcallL ?_ | refine w_lcallN ?_ | refine w_dget1 ?_ | refine w_iDic ?_))
noncomputable def bHandsBack : TSt :=   (sSeq (sFor (tgT (tgCons (tgN 1) (tgCons (tgN 2) (tgCons (tgN 3) tgNil)))) (iV (vBin oIdx (vVar 0) (vC (.int 1)))) (sSeq (sFor (tgT (tgCons (tgN 4) (tgCons (tgN 5) tgNil))) (iV (vVar 3)) (sSeq (sIf (bV (vCallL fAny (lComp (tgN 6) (iV (vVar 5)) bYes (vBin oIsNot (vBin oIdx (vVar 6) (vC (.int 2))) (vC .non)) [6]))) (sSeq (sRet (vC (.bl true))) sNil) sNil) sNil)) sNil)) (sSeq (sRet (vC (.bl false))) sNil))
noncomputable def bCheckPlain : TSt :=   (sSeq (sIf (bV (vApp (fnV 1 7 bHandsBack) (vsCons (vVar 0) vsNil))) (sSeq (sRaise0 "NoPairing") sNil) sNil) sNil)
theorem w_any {tg : Tgt} {el : TV} {ρ : Env'} {S : Store} {l : LI} {Q' : PV → Store → Prop} {E : PX → Store → Prop} (s : PV → Bool) (lk : lkI l S)
    (h : ∀ x ∈ l.1, Op (tg x ρ) fun ρ1 => W (el ρ1 S) (fun y S2 => y = .bl (s x) ∧ S2 = S) fun _ _ => False) (q : Q' (.bl (l.1.any s)) S) : W (compL tg bYes el ρ l l.1 [] S) (fun l S => Op (fAny l.1) fun u => Q' u S) E := by
  refine w_pureY (fun x => .bl (s x)) lk h ?_
  rw [show (l.1.map fun x => PV.bl (s x)) = (l.1.map s).map PV.bl from by rw [List.map_map]; rfl]
  have e : ∀ bs : List Bool, asBl (bs.map PV.bl) = some bs := fun bs => by
    induction bs with
    | nil => rfl
    | cons b bs ih => rw [List.map_cons, asBl, ih]; rfl
  refine Op.of (x := .bl (l.1.any s)) ?_ q
  show (asBl _).map _ = _
  rw [e]
  simp [List.any_map, Function.comp_def]
/-- the deeds of a state hand something back -/
def hbD (d : Deed) : Bool := d.2.any fun o => o.2.2.isSome
def hbS (s : State) : Bool := s.2.2.any hbD
def hbK (s : List State) : Bool := s.any hbS
def outMade : PV → Bool
  | .tup [_, _, x] => !x.isNon
  | _ => false
theorem outMade_eq (os : List Out) : ((os.map eOut).any outMade) = os.any fun o => o.2.2.isSome := by
  rw [List.any_map]
  congr 1
  funext o
  show (!(eO o.2.2).isNon) = _
  rw [isNon_O]
  cases o.2.2 <;> rfl
section
variable {Q : PV → Store → Prop} {E : PX → Store → Prop} {S0 : Store}
theorem hands_back_w {n : Str} {sts : List State} (q : Q (.bl (hbK sts)) S0) : W (fnV 1 7 bHandsBack [eK n sts] S0) Q E := by
  refine w_fn rfl ?_
  show WS (bHandsBack [some (eK n sts), none, none, none, none, none, none] S0) _
  unfold bHandsBack eK
  repeat walk_at "x"
  refine s_loop (fun rest ρ T => T = S0 ∧ ∃ (ss : List State) (e1 e2 e3 e4 e5 e6 : Option PV), rest = ss.map eSt ∧ hbK ss = hbK sts ∧ ρ = [some (.tup [.str n, .tup (sts.map eSt)]), e1, e2, e3, e4, e5, e6]) ⟨rfl, sts, _, _, _, _, _, _, rfl, rfl, rfl⟩ (fun x rest ρ T h => ?_) (fun ρ T h => ⟨trivial, ?_⟩)
  · obtain ⟨rfl, ss, e1, e2, e3, e4, e5, e6, hr, hs, rfl⟩ := h
    cases ss with
    | nil => cases hr
    | cons s ss =>
      simp only [List.map_cons, List.cons.injEq] at hr
      obtain ⟨rfl, rfl⟩ := hr
      refine ⟨trivial, ?_⟩
      unfold eSt
      repeat walk_at "x"
      refine s_loop (fun rest ρ T' => T' = T ∧ ∃ (ds : List Deed) (e4 e5 e6 : Option PV), rest = ds.map eDeed ∧ (ds.any hbD || hbK ss) = hbK sts ∧ ρ = [some (.tup [.str n, .tup (sts.map eSt)]), some (.str s.1), some (.bl s.2.1), some (.tup (s.2.2.map eDeed)), e4, e5, e6]) ⟨rfl, s.2.2, _, _, _, rfl, hs, rfl⟩ (fun x rest ρ T' h => ?_) (fun ρ T' h => ⟨trivial, ?_⟩)
      · obtain ⟨rfl, ds, e4, e5, e6, hr, hd, rfl⟩ := h
        cases ds with
        | nil => cases hr
        | cons d ds =>
          simp only [List.map_cons, List.cons.injEq] at hr
          obtain ⟨rfl, rfl⟩ := hr
          refine ⟨trivial, ?_⟩
          unfold eDeed eOuts
          repeat walk_at "x"
          refine w_any outMade trivial (fun x hx => ?_) ?_
          · obtain ⟨o, ho, rfl⟩ := List.mem_map.mp hx
            unfold eOut
            repeat walk_at "x"
            exact ⟨rfl, rfl⟩
          rw [outMade_eq]
          repeat walk_at "x"
          cases hb : d.2.any fun o => o.2.2.isSome
          · repeat walk_at "x"
            refine ⟨rfl, ds, _, _, _, rfl, ?_, rfl⟩
            rw [← hd, List.any_cons, show hbD d = false from hb, Bool.false_or]
          · repeat walk_at "x"
            rw [← hd, List.any_cons, show hbD d = true from hb] at q
            exact g_keep (Kp.refl _) (by rfl) q
      · obtain ⟨rfl, ds, e4, e5, e6, hr, hd, rfl⟩ := h
        have : ds = [] := by cases ds with
          | nil => rfl
          | cons _ _ => cases hr
        subst this
        exact ⟨rfl, ss, _, _, _, _, _, _, rfl, hd, rfl⟩
  · obtain ⟨rfl, ss, e1, e2, e3, e4, e5, e6, hr, hs, rfl⟩ := h
    have : ss = [] := by cases ss with
      | nil => rfl
      | cons _ _ => cases hr
    subst this
    repeat walk_at "x"
    rw [← hs] at q
    exact q
theorem check_plain_w {n : Str} {sts : List State} (h : hbK sts = false) (q : Q .non S0) : W (fnV 1 1 bCheckPlain [eK n sts] S0) Q E := by
  refine w_fn rfl ?_
  show WS (bCheckPlain [some (eK n sts)] S0) _
  unfold bCheckPlain
  repeat walk_at "x"
  refine hands_back_w ?_
  rw [h]
  repeat walk_at "x"
  exact q
end
end
/-! Fw225: pairs of states as keys of a dict. -/
section
theorem key_p2 (p : Str × Str) : keyN (eP2 p) = some (nP2 p) := by
  have h : (nP2 p).depth ≤ 8 := by simp [nP2, NestedKey.depth, NestedKey.depthAll]
  show (match PV.nk (eP2 p) with | some n => if n.depth ≤ 8 then some n else none | none => none) = _
  rw [nk_p2]
  dsimp only
  rw [if_pos h]
end
/-! Fw226: where one kind stands in for another. -/
/-! Fw227: kinds that hand something back are refused. -/
/-! Fw228: the places of a kind's outs. -/
/-! Fw229: a drawn kind that hands nothing back is what the walk asks for. -/
section
theorem plain_of {k : Kind} (h : dKind8 [] k) : hbK k.2 = false := by
  unfold hbK
  rw [List.any_eq_false]
  intro s hs
  unfold hbS
  rw [Bool.not_eq_true, List.any_eq_false]
  intro d hd
  unfold hbD
  rw [Bool.not_eq_true, List.any_eq_false]
  intro o ho
  have := (((h.2.2.2.2 s hs).2.2.2 d hd).2.2.2.2 o ho).2.2
  cases hx : o.2.2 with
  | none => simp
  | some y => exact absurd (this y hx) (by simp)
theorem nm_sok {z : Str} (h : nm (.str z) = true) : SOk z := (nm_tx h).1.ok (by decide)
end
/-! Fw230: a ring of states. -/
/-! Fw231: the copies of a state. -/
section
local macro_rules | `(tactic| walk_at "f") => `(tactic| (with_reducible first | refine w_lcallL ?_ | refine w_lcallN ?_))
end
/-! Fw232 -/
section
local macro_rules | `(tactic| walk_at "f") => `(tactic| (with_reducible first | refine w_lcallL ?_ | refine w_lcallN ?_ | refine w_orT ?_))
/-- outs that a state may have -/
def dOuts (st : List Str) (os : List Out) : Prop := os ≠ [] ∧ os.length ≤ 6 ∧ (os.map (·.1)).Nodup ∧ ∀ o ∈ os, dOut st [] o
theorem dOuts.sub {st : List Str} {os ks : List Out} (h : dOuts st os) (s : ks.Sublist os) (ne : ks ≠ []) : dOuts st ks :=
  ⟨ne, Nat.le_trans s.length_le h.2.1, (s.map _).nodup h.2.2.1, fun o ho => h.2.2.2 o (s.subset ho)⟩
section
variable {Q : PV → Store → Prop} {E : PX → Store → Prop} {S0 : Store}
end
end
/-! Fw233 -/
/-! Fw234 -/
section
local macro_rules | `(tactic| walk_at "f") => `(tactic| (with_reducible first | refine w_lcallL ?_ | refine w_lcallN ?_))
end
/-! Fw235 -/
/-! Fw236 -/
/-! Fw237 -/
/-! Fw238 -/
end Ev
namespace Ev
open PySem PySem.Spec PyProof.Rows L2
/-! Fw239: d.setdefault(k, x), sorted(d) of a dict with text keys. -/
section
section
variable {X : Cx} {W : WX} {a b e : Expr} {ea eb ev : TV} {pos apos cpos : Pos}
/-! ### d.setdefault(k, x) -/
theorem sv_dsetd {o e f : Expr} {vo vk vz : TV} (ho : PE X o (E_ X W vo)) (he : PE X e (E_ X W vk)) (hf : PE X f (E_ X W vz)) (m : M2 X o "setdefault" apos e f cpos) : PE X (.Call (.Attribute o "setdefault" apos) [e, f] [] cpos) (E_ X W (vDSetD vo vk vz)) := by
  refine PE.imp (pe_dsetd ho he hf m) fun σ H Q h => ?_
  obtain ⟨μ, S, ρ, R, E, p⟩ := h
  refine ⟨μ, S, ρ, R, E, Post.step (P := fun μ H r => Post X.K (cmX X) μ H r Q (atσ W σ)) p (fun _ _ h => h) (fun h => h) fun x S1 μ1 H1 v E1 R1 rv p => ?_⟩
  cases rv with
  | @ref j a hj =>
    dsimp only at p
    cases hS : S1[j]? with
    | none => rw [hS] at p; exact p.elim
    | some ob =>
      rw [hS] at p
      cases ob with
      | dic kvs0 =>
        dsimp only at p
        obtain ⟨vs0, e0, _, _⟩ := R1.ob j a _ hj hS
        refine ⟨a, rfl, .inl ⟨vs0, .inl e0⟩, μ1, S1, ρ, R1, E.mono R E1, Post.step (P := fun μ H r => Post X.K (cmX X) μ H r Q (atσ W σ)) (p.ext E1) (fun _ _ h => h) (fun h => h) fun y S2 μ2 H2 w E2 R2 rw2 p => ?_⟩
        refine ⟨μ2, S2, ρ, R2, (E.mono R E1).mono R1 E2, Post.step (P := fun μ H r => Post X.K (cmX X) μ H r Q (atσ W σ)) (p.ext E2) (fun _ _ h => h) (fun h => h) fun u S3 μ3 H3 t E3 R3 rt p => ?_⟩
        have hj3 : μ3[j]? = some a := E3.pre j a (E2.pre j a hj)
        have rw3 := rw2.mono R2 E3
        have p := p.ext E3
        unfold dsetd at p
        cases hS3 : S3[j]? with
        | none => rw [hS3] at p; exact p.elim
        | some ob =>
          rw [hS3] at p
          cases ob with
          | dic kvs =>
            cases hk : keyOf y with
            | none => rw [hk] at p; exact p.elim
            | some k =>
              rw [hk] at p
              dsimp only at p
              obtain ⟨vs, e1, l, r⟩ := R3.ob j a _ hj3 hS3
              split at p
              · rename_i hl
                have ey := key_V hk rw3
                subst ey
                have hl2 : vs.length < sizeLine := by rw [← r.length]; exact hl
                refine ⟨vs, k, e1, rfl, hl2, fun v hv => ?_, fun hn => ?_⟩
                · rcases r.val k with ⟨h1, h2⟩ | ⟨x', w', h1, h2, rx'⟩
                  · rw [h2] at hv; cases hv
                  · rw [h1] at p
                    rw [h2] at hv
                    cases hv
                    exact p μ3 H3 _ Ext.refl R3 rx'
                · rcases r.val k with ⟨h1, h2⟩ | ⟨x', w', h1, h2, rx'⟩
                  · rw [h1] at p
                    have E4 : Ext μ3 H3 μ3 (upd H3 a (.dK (putK vs k t))) := Ext.put hj3 (NZ.dK e1)
                    refine p μ3 _ t E4 (R3.put hj3 (NZ.dK e1) ⟨_, upd_same, ?_, ?_⟩) (rt.mono R3 E4)
                    · unfold putP
                      split
                      · rw [List.length_map]; exact l
                      · rw [List.length_append]; show kvs.length + 1 ≤ sizeLine; omega
                    · exact (r.putP k rt).mono R3 E4
                  · rw [h2] at hn; cases hn
              · exact p.elim
          | _ => cases hk : keyOf y <;> rw [hk] at p <;> exact p.elim
      | _ => exact p.elim
  | _ => exact p.elim
end
/-! ### sorted(d), the keys texts -/
section
variable {prog : Program} {w : World} {A : Around} {E : Value → Shared → Prop} {s : Shared} {d : Addr} {kvs : List (Key × Value)} {ep : Nat} {ss : List Str}
theorem sorted_dicS {T : Value → Shared → Prop} (lo : (d == sysModules) = false) (hm : s.heap.DictAt (mixKind prog w) d kvs ep) (hk : kvs.map (·.1) = ss.map Sum.inr) (calm : A.handled = none) (few : ss.length < 64)
    (goal : ∀ (h' h'' : Heap) (tk : Nat) (out : Array Value) (c : Nat) (ys : List Str), (∀ b o, s.heap.get? b = some o → h'.get? b = some o) → (∀ b o, h'.get? b = some o → h''.get? b = some o) → h''.get? h'.objs.size = some (seqObj "list" out c) →
      StrsAre out.toList ys → ys.Perm ss → sortedS ys = true → T (.ref h'.objs.size) { s with heap := h'', toks := tk }) : wpAny (model prog w) A (call (.builtin "sorted") [.ref d]) T E s := by
  have hl : kvs.length = ss.length := by have := congrArg List.length hk; simpa using this
  refine Calls.call_function_entry kind_sorted plain_sorted entry_sorted (args_sorted1 _) ?_
  unfold Builtin.«sorted»
  refine wpAny_bind (m := checkCount "sorted" 1 1 _) (wpAny_pure ?_)
  refine wpAny_bind (PySem.W.kdu_collect (A := A.in1) (PySem.W.kdl_dict (knd := mixKind prog w) (kvs := kvs) (ep := ep) lo) calm hm (by rw [hl, sizeLine_eq]; omega) fun h' tk acc hkk hacc => ?_)
  have hv : Vals (kvs.map fun p => kV p.1) acc.toList := keys_at (by rw [Array.length_toList]; exact hacc.1) fun j v e => hacc.2 j v (by rw [← Array.getElem?_toList]; exact e)
  have ek : (kvs.map fun p => kV p.1) = ss.map V.str := by
    have e := congrArg (List.map kV) hk
    rw [List.map_map, List.map_map] at e
    exact e
  rw [ek] at hv
  have hS := strsAre_of hv
  generalize acc.toList = vs at hS
  have vl : vs.length < 64 := by
    have := strs_txt hS
    have := congrArg List.length this
    rw [List.length_map] at this
    omega
  refine wpAny_bind (wpAny_newList ?_ (by rw [sizeLine_eq]; omega))
  show wpAny _ _ _ _ _ { s with heap := h'.push (seqObj "list" vs.toArray 0), toks := tk }
  have new : (h'.push (seqObj "list" vs.toArray 0)).get? h'.objs.size = some (seqObj "list" vs.toArray 0) := Heap.get?_push_size _ rfl
  refine wpAny_bind (wpAny_holding (wpAny_call_entry slot_list_sort ⟨_, new, rfl⟩ entry_list_sort (list_sort_treeK (s := { s with heap := h'.push (seqObj "list" vs.toArray 0), toks := tk }) strKind_oneLt new hS.keysOf (fun v₁ v₂ rest e => keyKind_strs (e ▸ hS)) vl fun st p1 p2 => ?_) (args_list_sort _)))
  obtain ⟨ys, r1, r2, r3⟩ := sorted_out_str hS p1 p2
  obtain ⟨c, hc⟩ := sortedHeap_at (vs := vs) (out := (arrOf st).map (·.2)) new
  refine ⟨_, rfl, wpAny_pure ⟨_, rfl, goal _ _ _ _ c ys hkk (fun b u e => ?_) hc r1 r2 r3⟩⟩
  have lt := Heap.lt_size e
  have q := sortedHeap_old (h := h'.push (seqObj "list" vs.toArray 0)) (a := h'.objs.size) (vs := vs) (out := (arrOf st).map (·.2)) (Nat.ne_of_lt lt) (by rw [size_push']; exact Nat.lt_succ_of_lt lt)
  exact q.trans (Heap.get?_push_of_some _ e)
end
theorem strKeys_eq : ∀ {kvs : List (Key × PV)} {ss : List Str}, strKeys kvs = some ss → kvs.map (·.1) = ss.map Sum.inr
  | [], ss, h => by cases h; rfl
  | (.inr x, v) :: r, ss, h => by
    obtain ⟨l, h1, rfl⟩ := Option.map_eq_some_iff.mp h
    rw [List.map_cons, strKeys_eq h1]; rfl
  | (.inl _, _) :: r, ss, h => by cases h
theorem unlikes_self {ss : List Str} (h : ss.Nodup) : (unlikes ss).Perm ss := (List.perm_ext_iff_of_nodup (nodup_unlikes ss) h).mpr fun z => mem_unlikes ss z
theorem rvs_strs {K : PySem.W.Frag} {μ : List Addr} {H : Hp} : ∀ {ys : List Str}, (∀ y ∈ ys, SOk y) → RVs K μ H (ys.map .str) (ys.map V.str)
  | [], _ => .nil
  | y :: ys, h => .cons (.str y (h y (by simp))) (rvs_strs fun z hz => h z (by simp [hz]))
section
variable {X : Cx}
theorem cs_sortD (hc : X.calm = true) : CallR X (.builtin "sorted") (rCN X.K (cmX X) fSortD) := by
  intro pins s σ H vs us Q I rv h
  obtain ⟨μ, S, xs, z, R, ra, hf, q⟩ := h
  unfold fSortD at hf
  split at hf
  · rename_i j
    obtain ⟨v, rfl, r1⟩ := ra.one
    cases r1 with
    | @ref _ ad hj =>
      split at hf
      · rename_i ss e
        obtain ⟨kvs, e1, e2⟩ := Option.bind_eq_some_iff.mp e
        split at hf
        · rename_i ok
          cases hf
          obtain ⟨kv, hd, l, r⟩ := dicAt_ok R hj e1
          rw [Vals.ref1 rv]
          obtain ⟨zz, lo, vs2, rel, dd⟩ := dk_rd I.hok hd
          obtain ⟨ep, hat⟩ := dd.dictAt
          have ek : vs2.map (·.1) = ss.map Sum.inr := by
            have := rel.keys
            rw [← this, r.keys]
            exact strKeys_eq e2
          refine sorted_dicS lo hat ek (I.ok.hd hc) ok.1.2 fun h' h'' tk out c ys k1 k2 hg st pm so => ?_
          have eu : sortU ss = ys := sortU_eq (pm.trans (unlikes_self ok.1.1).symm) so
          have I1 : Inv X pins σ H { s with heap := h', toks := tk } := I.kept k1
          have yl : (ys.map V.str).length ≤ sizeLine := by rw [List.length_map, pm.length_eq, sizeLine_eq]; have := ok.1.2; omega
          refine ⟨.ref _, upd H h'.objs.size (.lst (ys.map V.str)), I1.laid (t' := tk) k2 (Nat.le_refl _) ⟨yl, out.toList, c, vals_of_strs st, hg⟩, rfl, ?_⟩
          rw [eu] at q
          exact q _ _ (I1.hok.fresh (Nat.le_refl _)) (rvs_strs fun y hy => ok.2 y (pm.mem_iff.mp hy)) (by rw [List.length_map] at yl ⊢; exact yl)
        · cases hf
      · cases hf
  · cases hf
end
end
end Ev
namespace Ev
open PySem PySem.Spec PyProof.Rows L2 SX
local macro_rules | `(tactic| walk_at "w") => `(tactic| first
  | (with_reducible apply s_set; focus (repeat first | exact SetR.zero | apply SetR.succ))
  | (with_reducible apply w_get; focus (repeat first | exact GetR.zero | apply GetR.succ))
  | with_reducible first
  | refine s_seqN ?_ | refine s_seq ?_ | refine q_nx ?_ | refine q_ret ?_ | refine q_brk ?_ | refine q_cnt ?_ | refine q_exc ?_
  | refine s_nil ?_ | refine s_pass ?_ | refine s_brk ?_ | refine s_cnt ?_ | refine s_expr ?_ | refine s_ret ?_ | refine s_retN ?_ | refine s_if ?_ | refine s_unp ?_ | refine s_sub ?_ | refine s_for ?_
  | refine w_c ?_ | (refine w_str ?_ ?_; decide +kernel) | refine w_bin ?_ | refine w_un ?_ | refine w_chn ?_ | refine w_bV ?_ | refine w_bBl ?_ | refine w_bAnd ?_ | refine w_bOr ?_ | refine w_bNot ?_ | refine w_bYes ?_
  | refine w_vAnd ?_ | refine w_vOr ?_ | refine w_vNot ?_ | refine w_vIf ?_ | refine w_nil ?_ | refine w_cons ?_ | refine w_tup ?_ | refine w_disp ?_ | refine w_new ?_ | refine lnew ?_ | refine w_oNone ?_ | refine w_oSome ?_ | refine w_slc ?_ | refine w_lslc ?_ | refine slcT ?_ | refine slcS ?_
  | refine w_call ?_ | refine w_callL ?_ | refine w_lcallL ?_ | refine w_lcallN ?_ | refine w_isi ?_ | refine w_app ?_ | refine w_app0 ?_ | refine w_lval ?_ | refine w_cat ?_ | refine w_eqL ?_ | refine w_lm ?_ | refine w_ext ?_ | refine w_sm ?_ | refine w_sm0 ?_ | refine w_lsm ?_ | refine w_smL ?_ | refine w_dic0 ?_ | refine w_dic1 ?_ | refine w_iV ?_ | refine w_iL ?_ | refine il_none ?_ | refine il_some ?_ | refine w_rng ?_ | refine w_comp ?_ | refine w_rev ?_ | refine w_lenSet ?_ | refine w_extV ?_
  | refine o_addI ?_ | refine o_iadd ?_ | refine o_sub ?_ | refine o_neg ?_ | refine o_ltI ?_ | refine o_le ?_ | refine o_gt ?_ | refine o_ge ?_ | refine o_is ?_ | refine o_isNot ?_ | refine o_lenT ?_ | refine o_lenF ?_ | refine o_lenS ?_ | refine o_intB ?_ | refine o_intI ?_ | refine o_max ?_ | refine o_min ?_ | refine o_tupT ?_ | refine o_eqI ?_ | refine o_eqS ?_ | refine o_eqB ?_
  | refine b_is ?_ | refine i_is ?_ | refine s_is ?_ | refine i_tup ?_ | refine i_str ?_ | refine tr_bl ?_ | refine ty_bl ?_ | refine ty_str ?_ | refine ty_tup ?_ | refine ty_int ?_ | refine k_s ?_ | refine k_i ?_
  | refine Br.tt ?_ | refine Br.ff ?_ | refine Br.nf ?_ | refine Br.nt ?_ | refine f_ret ?_ | refine f_nx ?_ | refine f_body ?_)
local macro_rules | `(tactic| walk_at "sget") => `(tactic| first
  | assumption | exact get_app _ _ _ | exact trivial
  | (refine get_set ?_; walk_at "sget") | (refine get_app_lt ?_; walk_at "sget"))
local macro_rules | `(tactic| walk_at "len") => `(tactic| first
  | exact Nat.zero_le _ | exact len_le rfl
  | (have hbig := sizeLine_eq; simp only [List.length_map, List.length_cons, List.length_nil, List.length_append, List.length_take, List.length_drop, List.length_reverse, List.length_set, List.length_range]; omega))
local macro_rules | `(tactic| walk_at "off") => `(tactic| focus rfl)
local macro_rules | `(tactic| walk_at "e") => `(tactic| simp only [wipeE, reset, List.foldl_cons, List.foldl_nil, List.set_cons_succ, List.set_cons_zero])
local macro_rules | `(tactic| walk_at "kp") => `(tactic| first | assumption | exact Kp.refl _ | exact Kp.app _ _ | (refine Kp.trans ?_ (Kp.app _ _); walk_at "kp"))
local macro_rules | `(tactic| walk_at "set") => `(tactic| first | exact setR0 | exact setR1 | exact setR2 | exact setR3 | exact setR4 | exact setR5 | exact setR6 | exact setR7 | exact setR8 | exact setR9 | exact setR10 | exact setR11 | exact setR12 | (repeat first | exact SetR.zero | apply SetR.succ))
local macro_rules | `(tactic| walk_at "f") => `(tactic| fail)
local macro_rules | `(tactic| walk_at "x") => `(tactic| first
  | ((with_reducible show W _ _ _); first
    | ((with_reducible apply w_var); (focus exact rfl))
    | with_reducible first | refine w_c ?_ | refine w_cons ?_ | refine w_nil ?_ | refine w_bin ?_ | refine w_app ?_ | refine w_call ?_ | refine w_tup ?_ | refine w_bBl ?_ | refine w_new ?_ | refine w_iV ?_ | refine w_comp ?_ | refine w_iL ?_ | refine w_bV ?_ | refine w_disp ?_ | refine w_vAnd ?_ | refine w_vOr ?_ | refine w_bAnd ?_ | refine w_bOr ?_ | refine w_bNot ?_ | refine w_bYes ?_ | refine w_isi ?_ | refine w_callL ?_ | refine w_lval ?_ | refine w_lm ?_ | refine w_chn ?_ | refine w_un ?_ | refine w_oNone ?_ | refine w_oSome ?_ | refine w_slc ?_ | refine w_lslc ?_ | refine w_rng ?_ | refine w_vNot ?_ | refine w_vIf ?_ | refine w_cat ?_ | refine w_eqL ?_ | refine w_lenSet ?_ | refine w_app0 ?_ | refine w_extV ?_ | refine w_ext ?_ | refine w_lcallL ?_ | refine w_lcallN ?_ | refine w_sm ?_ | refine w_sm0 ?_ | refine w_lsm ?_ | refine w_smL ?_ | refine w_dic0 ?_ | refine w_dic1 ?_ | refine w_rev ?_ | refine f_ret ?_ | refine f_nx ?_
    | ((with_reducible refine g_keep ?_ ?_ ?_); (focus walk_at "kp"); (focus rfl))
    | (with_reducible refine w_str ?_ ?_; decide +kernel)
    | walk_at "f"
    | with_reducible refine f_body ?_)
  | ((with_reducible show WS _ _); first
    | with_reducible first | refine s_seqN ?_ | refine s_seq ?_ | refine q_nx ?_
    | ((with_reducible apply s_set); (focus walk_at "set"))
    | with_reducible first | refine s_expr ?_ | refine s_ret ?_ | refine s_if ?_ | refine s_nil ?_ | refine q_ret ?_ | refine s_unp ?_ | refine s_sub ?_ | refine s_for ?_ | refine q_cnt ?_ | refine q_brk ?_ | refine q_exc ?_ | refine s_retN ?_ | refine s_cnt ?_ | refine s_brk ?_ | refine s_pass ?_)
  | ((with_reducible show Op _ _); first
    | ((with_reducible apply t_n); (focus walk_at "set"))
    | with_reducible first
      | refine t_cons ?_ | refine t_nil ?_ | refine t_tup ?_ | refine i_tup ?_
      | refine o_lenT ?_
      | refine o_eqS ?_ | refine o_eqI ?_ | refine o_eqB ?_ | refine o_neI ?_ | refine o_neS ?_ | refine o_neB ?_ | refine o_is ?_ | refine o_isNot ?_ | refine o_isT ?_ | refine o_isNT ?_ | refine o_isF ?_ | refine o_isNF ?_
      | refine o_addI ?_ | refine o_sub ?_ | refine o_neg ?_ | refine o_ltI ?_ | refine o_le ?_ | refine o_gt ?_ | refine o_ge ?_ | refine o_iadd ?_
      | refine tr_bl ?_ | refine ty_bl ?_ | refine ty_str ?_ | refine ty_tup ?_ | refine ty_int ?_ | refine o_tupT ?_
      | refine o_lenF ?_ | refine o_lenS ?_ | refine o_intB ?_ | refine o_intI ?_ | refine o_max ?_ | refine o_min ?_ | refine i_str ?_ | refine k_s ?_ | refine k_i ?_
    | ((with_reducible apply o_idxT); (focus first | exact at0 _ _ | exact at1 _ _ _ | exact at2 _ _ _ _ | exact at3 _ _ _ _ _))
    | ((with_reducible apply i_ref); (focus walk_at "sget"))
    | ((with_reducible apply o_getL); (focus walk_at "sget"))
    | ((with_reducible apply o_lenR); (focus walk_at "sget"))
    | ((with_reducible apply o_idxR); (focus walk_at "sget"); (focus first | exact at0 _ _ | exact at1 _ _ _ | exact at2 _ _ _ _))
    | ((with_reducible apply o_tupR); (focus walk_at "sget"))
    | ((with_reducible apply o_listR); (focus walk_at "sget"))
    | ((with_reducible refine o_mod ?_ ?_); (focus omega))
    | ((with_reducible refine o_div ?_ ?_); (focus omega))
    | ((with_reducible refine o_pow ?_ ?_); (focus decide))
    | ((with_reducible refine o_app ?_ ?_); (focus walk_at "len"))
    | walk_at "f")
  | with_reducible first | refine b_is ?_ | refine i_is ?_ | refine s_is ?_ | refine Br.tt ?_ | refine Br.ff ?_ | refine Br.nf ?_ | refine Br.nt ?_ | refine lnew ?_ | refine il_none ?_ | refine il_some ?_ | refine revT ?_ | refine slcT ?_ | refine slcS ?_
  | ((with_reducible refine Br.of_tt ?_ ?_); focus (first | assumption | rfl | exact beq_self_eq_true _ | (simp only [decide_eq_true_eq]; omega)))
  | ((with_reducible refine Br.of_ff ?_ ?_); focus (first | assumption | rfl | (rw [beq_self_eq_true]; rfl) | (simp only [decide_eq_false_iff_not]; omega)))
  | ((with_reducible refine And.intro ?_ ?_); (focus first | ((with_reducible show _ ≤ sizeLine); walk_at "len") | ((with_reducible show lkOk _ _); walk_at "sget")))
  | ((with_reducible refine seek_nx ?_ ?_); (focus rfl); walk_at "off") | ((with_reducible refine seek_cnt ?_ ?_); (focus rfl); walk_at "off") | ((with_reducible refine seek_ret ?_); focus rfl))
local macro_rules | `(tactic| walk_at "b") => `(tactic| with_reducible first | refine b_is ?_ | refine Br.tt ?_ | refine Br.ff ?_ | refine Br.nf ?_ | refine Br.nt ?_ | refine tr_bl ?_)
local macro_rules | `(tactic| walk_at "y") => `(tactic| (fail_if_success (with_reducible refine s_if ?_)); walk_at "x")
local macro_rules | `(tactic| walk_at "f") => `(tactic| with_reducible first | refine w_iEn ?_ | refine w_iZp ?_ | refine zs_two ?_ | refine en_tup ?_ | refine en_frl ?_ | refine z_tup ?_ | refine i_frl ?_ | refine w_revT ?_)
local macro_rules | `(tactic| walk_at "x") => `(tactic| first
  | with_reducible first | refine s_raise1 ?_ | refine s_raise0 ?_ | refine s_try ?_ | refine tq_nx ?_ | refine tq_ret ?_ | refine f_exc ?_ | refine q_offR ?_
  | ((with_reducible refine q_off ?_ ?_); (focus (repeat first | exact OffR.zero | apply OffR.succ))))
/-! Fw240 -/
section
noncomputable def bYCell : TSt := (sSeq (sIf (bBl (vBin oLt (vVar 1) (vCall fLen (vsCons (vVar 0) vsNil)))) (sSeq (sRet (vBin oIdx (vVar 0) (vVar 1))) sNil) sNil) (sSeq (sRet (vC (.int 0))) sNil))
noncomputable def bYDeck : TSt := (sSeq (sRet (vDicN (vsCons (vStr "digits") (vsCons (vBin oIdx (vNew (lDisp (vsCons (vC (.int 0)) (vsCons (vVar 0) vsNil)))) (vCall fInt (vsCons (vBin oGe (vVar 0) (vBin oPow (vC (.int 10)) (vC (.int 18)))) vsNil))) (vsCons (vStr "turn") (vsCons (vC (.int 0)) (vsCons (vStr "seed") (vsCons (vBin oMod (vVar 0) (vC (.int 2147483647))) vsNil)))))))) sNil)
noncomputable def bYDraw : TSt := (sSeq (sIf (bBl (vBin oGt (vBin oDIdx (vVar 0) (vStr "digits")) (vC (.int 0)))) (sSeq (sSet 2 (vBin oMod (vBin oDIdx (vVar 0) (vStr "digits")) (vVar 1))) (sSeq (sSub (vVar 0) (vStr "digits") (vBin oDiv (vBin oDIdx (vVar 0) (vStr "digits")) (vVar 1))) (sSeq (sRet (vVar 2)) sNil))) sNil) (sSeq (sSub (vVar 0) (vStr "turn") (vBin oAdd (vBin oDIdx (vVar 0) (vStr "turn")) (vC (.int 1)))) (sSeq (sSet 3 (vBin oMod (vBin oMul (vBin oAdd (vBin oDIdx (vVar 0) (vStr "seed")) (vBin oMul (vBin oMul (vC (.int 7919)) (vBin oDIdx (vVar 0) (vStr "turn"))) (vBin oDIdx (vVar 0) (vStr "turn")))) (vC (.int 48271))) (vC (.int 2147483647)))) (sSeq (sRet (vBin oMod (vBin oDiv (vBin oMod (vBin oMul (vVar 3) (vBin oAdd (vVar 3) (vC (.int 69621)))) (vC (.int 2147483629))) (vC (.int 8))) (vVar 1))) sNil))))
theorem w_dicN {es : TVs} {ρ : Env'} {S : Store} {Q : PV → Store → Prop} {E : PX → Store → Prop} (h : W (es ρ S) (fun xs S1 => Op (pairUp xs) fun kvs => kvs.length ≤ 15 ∧ Q (.ref S1.length) (S1 ++ [.dic (mergeP [] kvs)])) E) : W (vDicN es ρ S) Q E := by
  refine W_bind (W_mono h (fun xs S1 h => ?_) fun _ _ h => h)
  cases hp : pairUp xs with
  | none => rw [hp] at h; exact h.elim
  | some kvs =>
    rw [hp] at h
    dsimp only
    rw [if_pos h.1]
    exact h.2
theorem merge_nd : ∀ {more acc : List (Key × PV)}, (acc.map (·.1) ++ more.map (·.1)).Nodup → mergeP acc more = acc ++ more
  | [], acc, _ => (List.append_nil _).symm
  | p :: more, acc, h => by
    have hn : p.1 ∉ acc.map (·.1) := fun hm => by
      rw [List.map_cons, List.nodup_append] at h
      exact h.2.2 _ hm p.1 (by simp) rfl
    show mergeP (putP acc p.1 p.2) more = _
    rw [putP_new hn, merge_nd (by rw [List.map_append]; simpa using h)]
    simp
/-! ### a deck: a dict of three numbers; its turn is at most n -/
theorem lowY (n : Nat) : ∀ o m, yN n o → o.low m = true := fun o m h => h.low m
theorem yd_d {a b c : Int} : valP [((Sum.inr "digits" : Key), PV.int a), ((Sum.inr "turn" : Key), .int b), ((Sum.inr "seed" : Key), .int c)] (.inr "digits") = some (.int a) := rfl
theorem yd_t {a b c : Int} : valP [((Sum.inr "digits" : Key), PV.int a), ((Sum.inr "turn" : Key), .int b), ((Sum.inr "seed" : Key), .int c)] (.inr "turn") = some (.int b) := by
  rw [valP_neg (show ¬ (Sum.inr "digits" : Key) = .inr "turn" by decide +kernel), valP_pos rfl]
theorem yd_s {a b c : Int} : valP [((Sum.inr "digits" : Key), PV.int a), ((Sum.inr "turn" : Key), .int b), ((Sum.inr "seed" : Key), .int c)] (.inr "seed") = some (.int c) := by
  rw [valP_neg (show ¬ (Sum.inr "digits" : Key) = .inr "seed" by decide +kernel), valP_neg (show ¬ (Sum.inr "turn" : Key) = .inr "seed" by decide +kernel), valP_pos rfl]
theorem yd_pd {a b c : Int} (x : PV) : putP [((Sum.inr "digits" : Key), PV.int a), ((Sum.inr "turn" : Key), .int b), ((Sum.inr "seed" : Key), .int c)] (.inr "digits") x = [((Sum.inr "digits" : Key), x), ((Sum.inr "turn" : Key), .int b), ((Sum.inr "seed" : Key), .int c)] := by
  have h1 : ¬ (Sum.inr "turn" : Key) = .inr "digits" := by decide +kernel
  have h2 : ¬ (Sum.inr "seed" : Key) = .inr "digits" := by decide +kernel
  unfold putP
  rw [if_pos (by rw [List.any_cons]; simp)]
  simp only [List.map_cons, List.map_nil, if_neg h1, if_neg h2, if_pos]
theorem yd_pt {a b c : Int} (x : PV) : putP [((Sum.inr "digits" : Key), PV.int a), ((Sum.inr "turn" : Key), .int b), ((Sum.inr "seed" : Key), .int c)] (.inr "turn") x = [((Sum.inr "digits" : Key), .int a), ((Sum.inr "turn" : Key), x), ((Sum.inr "seed" : Key), .int c)] := by
  have h1 : ¬ (Sum.inr "digits" : Key) = .inr "turn" := by decide +kernel
  have h2 : ¬ (Sum.inr "seed" : Key) = .inr "turn" := by decide +kernel
  unfold putP
  rw [if_pos (by rw [List.any_cons, List.any_cons]; simp)]
  simp only [List.map_cons, List.map_nil, if_neg h1, if_neg h2, if_pos]
section
variable {Q : PV → Store → Prop} {E : PX → Store → Prop} {S : Store}
theorem ycell_w {ns : List Int} {k : Nat} (q : ∀ c : Int, Q (.int c) S) : W (fnV 2 2 bYCell [.frl (ns.map .int), .int (k : Int)] S) Q E := by
  refine w_fn rfl ?_
  show WS (bYCell [some (.frl (ns.map .int)), some (.int (k : Int))] S) _
  unfold bYCell
  repeat walk_at "x"
  refine Br.dec (fun h => ?_) (fun h => ?_)
  · repeat walk_at "x"
    obtain ⟨z, hz, _⟩ := atI_ex (xs := ns) (k := (k : Int)) (by omega) (by simpa using h)
    refine Op.of (x := .int z) (by rw [x_idxF, atI_map, hz]; rfl) ?_
    repeat walk_at "x"
    exact q z
  · repeat walk_at "x"
    exact q 0
theorem ydeck_w {c : Int} (q : ∀ o, yN 0 o → Q (.ref S.length) (S ++ [o])) : W (fnV 1 1 bYDeck [.int c] S) Q E := by
  refine w_fn rfl ?_
  show WS (bYDeck [some (.int c)] S) _
  unfold bYDeck
  repeat walk_at "x"
  refine w_dicN ?_
  repeat walk_at "x"
  refine o_idxR (get_app _ _ _) at_two ?_
  obtain ⟨d, hd⟩ : ∃ d : Int, (if decide (10 ^ (Int.toNat 18) ≤ c) = true then PV.int c else PV.int 0) = .int d := by
    split
    · exact ⟨c, rfl⟩
    · exact ⟨0, rfl⟩
  rw [hd]
  repeat walk_at "x"
  refine Op.of rfl ⟨by show 3 ≤ 15; omega, ?_⟩
  have dn : [(Sum.inr "digits" : Key), .inr "turn", .inr "seed"].Nodup := by decide +kernel
  rw [show mergeP [] [((Sum.inr "digits" : Key), PV.int d), ((Sum.inr "turn" : Key), .int 0), ((Sum.inr "seed" : Key), .int (c % 2147483647))] = _ from merge_nd (acc := []) dn]
  repeat walk_at "x"
  exact g_new ((Kp.app _ _).trans (Kp.app _ _)) (by simp) (get_app _ _ _) (by rfl) (q _ ⟨_, _, _, rfl, by omega, by omega⟩)
theorem ydraw_w {i n : Nat} {m : Int} (hw : HasN i n S) (hn : n ≤ 1000000000) (h0 : 0 < m ∧ m < 1073741824) (q : ∀ (r : Int) (U : Store), Fr (yN (n + 1)) i S U → U.length = S.length → 0 ≤ r → r < m → Q (.int r) U) : W (fnV 2 4 bYDraw [.ref i, .int m] S) Q E := by
  obtain ⟨o, h, d, t, s, rfl, t0, t1⟩ := hw
  unfold yd at h
  refine w_fn rfl ?_
  show WS (bYDraw [some (.ref i), some (.int m), none, none] S) _
  unfold bYDraw
  have big := sizeLine_eq
  repeat walk_at "x"
  refine o_didx h rfl yd_d ?_
  repeat walk_at "x"
  refine Br.dec (fun ha => ?_) (fun ha => ?_)
  · repeat walk_at "x"
    refine o_didx h rfl yd_d ?_
    repeat walk_at "x"
    refine o_didx h rfl yd_d ?_
    repeat walk_at "x"
    refine o_stK h (by show 3 < sizeLine; omega) ?_
    rw [yd_pd]
    repeat walk_at "x"
    exact g_fr (Fr.set h ⟨_, t, s, rfl, t0, by omega⟩) (lowY (n + 1)) (lt_of_get h) rfl fun U u e => q _ U u e (Int.emod_nonneg _ (by omega)) (Int.emod_lt_of_pos _ h0.1)
  · repeat walk_at "x"
    refine o_didx h rfl yd_t ?_
    repeat walk_at "x"
    refine o_stK h (by show 3 < sizeLine; omega) ?_
    rw [yd_pt]
    have h2 : (S.set i (.dic [((Sum.inr "digits" : Key), .int d), ((Sum.inr "turn" : Key), .int (t + 1)), ((Sum.inr "seed" : Key), .int s)]))[i]? = some (.dic [((Sum.inr "digits" : Key), .int d), ((Sum.inr "turn" : Key), .int (t + 1)), ((Sum.inr "seed" : Key), .int s)]) := get_set h
    repeat walk_at "x"
    refine o_didx h2 rfl yd_s ?_
    repeat walk_at "x"
    refine o_didx h2 rfl yd_t ?_
    repeat walk_at "x"
    refine o_mul (.inl (by omega)) ?_
    repeat walk_at "x"
    refine o_didx h2 rfl yd_t ?_
    repeat walk_at "x"
    refine o_mul (.inr (by omega)) ?_
    repeat walk_at "x"
    refine o_mul (.inr (by omega)) ?_
    repeat walk_at "x"
    generalize (s + 7919 * (t + 1) * (t + 1)) * 48271 = w
    have w0 := Int.emod_nonneg w (b := 2147483647) (by omega)
    have w1 := Int.emod_lt_of_pos w (b := 2147483647) (by omega)
    refine o_mul (.inl (by omega)) ?_
    repeat walk_at "x"
    exact g_fr (Fr.set h ⟨d, t + 1, s, rfl, by omega, by omega⟩) (lowY (n + 1)) (lt_of_get h) rfl fun U u e => q _ U u e (Int.emod_nonneg _ (by omega)) (Int.emod_lt_of_pos _ h0.1)
end
end
/-! Fw241 -/
section
noncomputable def bYWord : TSt := (sSeq (sSet 2 (vStr "abcdefghijklmnopqrstuvwxyz")) (sSeq (sSet 3 (vSmL mJoin (vStr "") (lComp (tgN 7) (iRng (vsCons (vBin oAdd (vC (.int 1)) (vApp (fnV 2 4 bYDraw) (vsCons (vVar 0) (vsCons (vC (.int 8)) vsNil)))) vsNil)) bYes (vBin oIdx (vVar 2) (vApp (fnV 2 4 bYDraw) (vsCons (vVar 0) (vsCons (vC (.int 26)) vsNil)))) [7]))) (sSeq (sSet 4 (vApp (fnV 2 4 bYDraw) (vsCons (vVar 0) (vsCons (vC (.int 8)) vsNil)))) (sSeq (sIf (bAnd (bBl (vEqL true (lVal (vVar 1)) (lDisp vsNil))) (bBl (vBin oGt (vVar 4) (vC (.int 4))))) (sSeq (sSet 5 (vApp (fnV 2 4 bYDraw) (vsCons (vVar 0) (vsCons (vCall fLen (vsCons (vBin oIdx (vVar 1) (vUn oNeg (vC (.int 1)))) vsNil)) vsNil)))) (sSeq (sSet 3 (vBin oAdd (vBin oAdd (vSlc (vBin oIdx (vVar 1) (vUn oNeg (vC (.int 1)))) oNone (oSome (vVar 5))) (vBin oIdx (vVar 3) (vC (.int 0)))) (vSlc (vBin oIdx (vVar 1) (vUn oNeg (vC (.int 1)))) (oSome (vBin oAdd (vVar 5) (vC (.int 1)))) oNone))) sNil)) sNil) (sSeq (sIf (bBl (vBin oEq (vVar 4) (vC (.int 4)))) (sSeq (sSet 3 (vBin oIdx (vNew (lDisp (vsCons (vStr "done") (vsCons (vStr "open") (vsCons (vStr "room") (vsCons (vStr "none") (vsCons (vStr "kept") (vsCons (vStr "state") (vsCons (vStr "looks") (vsCons (vStr "users") vsNil)))))))))) (vApp (fnV 2 4 bYDraw) (vsCons (vVar 0) (vsCons (vC (.int 8)) vsNil))))) sNil) sNil) (sSeq (sSet 6 (vStr "make use ask call see blind move leave loop out back fit bare as kind def main rest gone")) (sSeq (sWhile (bOr (bBl (vBin oIn (vVar 3) (vVar 1))) (bBl (vBin oIn (vVar 3) (vNew (lSm mSplit (vVar 6) (vsCons (vStr " ") vsNil)))))) (sSeq (sSet 3 (vBin oAdd (vBin oIdx (vVar 2) (vBin oMod (vBin oAdd (vSm mIndex (vVar 2) (vsCons (vBin oIdx (vVar 3) (vC (.int 0))) vsNil)) (vC (.int 1))) (vC (.int 26)))) (vSlc (vVar 3) (oSome (vC (.int 1))) oNone))) sNil)) (sSeq (sRet (vVar 3)) sNil))))))))
theorem atI_last {α : Type} (l : List α) (x : α) : atI (l ++ [x]) (-1) = some x := by
  unfold atI
  have : ixN (l ++ [x]).length (-1) = some l.length := by
    unfold ixN
    simp
    try omega
  rw [this]
  simp
section
variable {Q : PV → Store → Prop} {E : PX → Store → Prop} {S0 : Store}
/-- letters that are drawn -/
theorem yletters_w {QL : LL → Store → Prop} {i t m n : Nat} {ρ : Env'} {f : PV → Env'} {T0 : Store} (ht : SetR ρ t f) (g0 : ∀ x, GetR (f x) 0 (.ref i)) (g2 : ∀ x, GetR (f x) 2 (.str (S lt26))) (hw : HasN i n T0) (hn : n + m ≤ 1000000000)
    (q : ∀ (cs : List Nat) (T : Store), Fr (yN (n + m)) i T0 T → T.length = T0.length → cs.length = m → (∀ c ∈ cs, isLt c) → QL (cs.map fun c => .str (S [c]), none) T) :
    W (compL (tgN t) bYes (vBin oIdx (vVar 2) (vApp (fnV 2 4 bYDraw) (vsCons (vVar 0) (vsCons (vC (.int 26)) vsNil)))) ρ (rangeL 0 m, none) (rangeL 0 m, (none : Option Lk)).1 [] T0) QL E := by
  refine w_turns (fun rest acc T => ∃ cs : List Nat, Fr (yN (n + cs.length)) i T0 T ∧ T.length = T0.length ∧ acc = cs.map (fun c => .str (S [c])) ∧ cs.length + rest.length = m ∧ ∀ c ∈ cs, isLt c) ⟨[], (Kp.refl T0).fr hw, rfl, rfl, by simp [rangeL], by simp⟩ (fun x rest acc T h => ?_) (fun acc T h => ⟨trivial, ?_⟩)
  · obtain ⟨cs, F, u, rfl, hl, hc⟩ := h
    simp only [List.length_cons] at hl
    refine ⟨trivial, t_n ht ?_⟩
    refine w_bYes (Br.tt ?_)
    refine w_bin (w_get (g2 x) ?_)
    refine w_app ?_
    refine w_cons (w_get (g0 x) ?_)
    repeat walk_at "x"
    refine ydraw_w F.own (by omega) (by omega) fun r V F3 u3 r0 r1 => ?_
    refine o_letter r0 r1 fun hlt => ?_
    refine ⟨cs ++ [97 + r.toNat], ?_, by omega, by simp, by simp; omega, fun c hc' => ?_⟩
    · rw [List.length_append]; exact F.tr F3
    rcases List.mem_append.mp hc' with h | h
    · exact hc c h
    · rw [List.mem_singleton.mp h]; exact hlt
  · obtain ⟨cs, F, u, rfl, hl, hc⟩ := h
    have hl : cs.length = m := by simpa using hl
    exact q cs T (hl ▸ F) u hl hc
theorem yword_w {i jt n : Nat} {tk : List Str} (hw : HasN i n S0) (hn : n ≤ 900000000) (h1 : jt ≠ i) (ht : S0[jt]? = some (.lst (tk.map .str))) (hg : ∀ z ∈ tk, good z) (hl : tk.length ≤ 11)
    (q : ∀ (z : Str) (U : Store), Fr (yN (n + 12)) i S0 U → U.length = S0.length → good z → z ∉ barL → z ∉ tk → Q (.str z) U) : W (fnV 2 8 bYWord [.ref i, .ref jt] S0) Q E := by
  have hi := hw.lt
  have hjt := lt_of_get ht
  have big := sizeLine_eq
  refine w_fn rfl ?_
  show WS (bYWord [some (.ref i), some (.ref jt), none, none, none, none, none, none] S0) _
  unfold bYWord
  rw [lt26_eq]
  refine s_seq ?_
  apply s_set
  · exact setR2
  refine w_str SOk_lt26 ?_
  repeat walk_at "x"
  refine ydraw_w hw (by omega) (by omega) fun r T F u r0 r1 => ?_
  obtain ⟨m, hm, m1, m8⟩ : ∃ m : Nat, (1 : Int) + r = (m : Int) ∧ 1 ≤ m ∧ m ≤ 8 := ⟨(1 + r).toNat, by omega, by omega, by omega⟩
  repeat walk_at "x"
  rw [hm]
  refine rng1 ⟨by omega, by omega⟩ ?_
  walk_at "e"
  rw [Int.toNat_natCast]
  refine yletters_w (ρ := [some (.ref i), some (.ref jt), some (.str (S lt26)), none, none, none, none, none]) (m := m) (n := n + 1) (.succ (.succ (.succ (.succ (.succ (.succ (.succ .zero))))))) (fun x => .zero) (fun x => .succ (.succ .zero)) F.own (by omega) fun b T1 F1 u1 hb hbl => ?_
  refine o_join (fun c hc => by have := (hbl c hc).2; omega) (by omega) ?_
  have Fa := (F.tr F1).up (m := n + 9) (by omega)
  have gb : good (S b) := good_S.mpr ⟨by omega, by omega, hbl⟩
  repeat walk_at "x"
  refine ydraw_w Fa.own (by omega) (by omega) fun way T2 F2 u2 w0 w1 => ?_
  have Fb := Fa.tr F2
  have tl2 : T2.length = S0.length := by omega
  have ht2 := Fb.of ht h1
  repeat walk_at "y"
  refine s_join (fun ρ' T => Fr (yN (n + 11)) i S0 T ∧ T.length = S0.length ∧ ∃ (z : Str) (e5 : Option PV), good z ∧ ρ' = [some (.ref i), some (.ref jt), some (.str (S lt26)), some (.str z), some (.int way), e5, none, none]) ?_ fun ρ' T3 H => ?_
  · repeat walk_at "x"
    refine o_eqE ?_
    cases he : (tk.map PV.str).isEmpty
    · rw [show (true != false) = true from rfl]
      repeat walk_at "x"
      refine Br.dec (fun hv => ?_) (fun hv => ?_)
      · obtain ⟨tk0, y, rfl⟩ : ∃ a b, tk = a ++ [b] := by
          cases hr : tk.reverse with
          | nil => rw [List.reverse_eq_nil_iff] at hr; rw [hr] at he; cases he
          | cons b a => exact ⟨a.reverse, b, by rw [← List.reverse_reverse tk, hr, List.reverse_cons]⟩
        have gy := hg y (by simp)
        obtain ⟨a, rfl⟩ := S_ex y
        have gy := good_S.mp gy
        have hat : atI ((tk0 ++ [S a]).map PV.str) (-1) = some (.str (S a)) := by rw [List.map_append]; exact atI_last _ _
        repeat walk_at "x"
        refine o_idxR ht2 hat ?_
        repeat walk_at "x"
        rw [len_S]
        refine ydraw_w Fb.own (by omega) ⟨by omega, by omega⟩ fun sp V FV uV s0 s1 => ?_
        have ht3 := FV.of ht2 h1
        repeat walk_at "x"
        refine o_idxR ht3 hat ?_
        repeat walk_at "x"
        obtain ⟨c, hc, hcm⟩ := atI_ex (xs := b) (k := 0) (by omega) (by omega)
        refine o_idxS (z := S b) (y := c) hc ?_
        rw [sCut, cut_to _ s0]
        refine o_addS (by show (S _).length + (S [c]).length ≤ _; rw [len_S, len_S]; simp; omega) ?_
        rw [show ((S (a.take sp.toNat)) ++ (⟨#[c]⟩ : Str)) = S (a.take sp.toNat ++ [c]) from S_cat _ _]
        repeat walk_at "x"
        refine o_idxR ht3 hat ?_
        repeat walk_at "x"
        rw [sCut, cut_from _ (by omega)]
        refine o_addS (by rw [len_S, len_S]; simp; omega) ?_
        rw [S_cat]
        repeat walk_at "x"
        refine ⟨(Fb.tr FV).up (by omega), by omega, _, _, good_S.mpr ⟨by simp; omega, by simp; omega, fun d hd => ?_⟩, rfl⟩
        simp only [List.mem_append, List.mem_singleton] at hd
        rcases hd with (hd | rfl) | hd
        · exact gy.2.2 d (List.mem_of_mem_take hd)
        · exact hbl d hcm
        · exact gy.2.2 d (List.mem_of_mem_drop hd)
      · repeat walk_at "x"
        exact ⟨Fb.up (by omega), by omega, _, _, gb, rfl⟩
    · rw [show (true != true) = false from rfl]
      repeat walk_at "x"
      exact ⟨Fb.up (by omega), by omega, _, _, gb, rfl⟩
  obtain ⟨F3, u3, z, e5, gz, rfl⟩ := H
  repeat walk_at "y"
  refine s_join (fun ρ' T => Fr (yN (n + 12)) i S0 T ∧ S0.length ≤ T.length ∧ ∃ (z : Str) (e5 : Option PV), good z ∧ ρ' = [some (.ref i), some (.ref jt), some (.str (S lt26)), some (.str z), some (.int way), e5, none, none]) ?_ fun ρ' T4 H => ?_
  · repeat walk_at "x"
    by_cases h4 : way = 4
    · refine Br.of_tt (by simp [h4]) ?_
      repeat walk_at "x"
      refine ydraw_w (i := i) (F3.kp (Kp.app _ _)).own (by omega) (by omega) fun r5 V FV uV s0 s1 => ?_
      obtain ⟨y, hy, gy⟩ : ∃ y : Str, atI [PV.str "done", .str "open", .str "room", .str "none", .str "kept", .str "state", .str "looks", .str "users"] r5 = some (.str y) ∧ good y := by
        have : r5 = 0 ∨ r5 = 1 ∨ r5 = 2 ∨ r5 = 3 ∨ r5 = 4 ∨ r5 = 5 ∨ r5 = 6 ∨ r5 = 7 := by omega
        have gl : ∀ y ∈ (["done", "open", "room", "none", "kept", "state", "looks", "users"] : List Str), good y := by
          intro y hy
          simp only [List.mem_cons, List.not_mem_nil, or_false] at hy
          rcases hy with rfl | rfl | rfl | rfl | rfl | rfl | rfl | rfl <;> (refine ⟨by decide +kernel, by decide +kernel, ?_⟩; unfold isLt; decide +kernel)
        rcases this with rfl | rfl | rfl | rfl | rfl | rfl | rfl | rfl
        · exact ⟨"done", rfl, gl _ (by simp)⟩
        · exact ⟨"open", rfl, gl _ (by simp)⟩
        · exact ⟨"room", rfl, gl _ (by simp)⟩
        · exact ⟨"none", rfl, gl _ (by simp)⟩
        · exact ⟨"kept", rfl, gl _ (by simp)⟩
        · exact ⟨"state", rfl, gl _ (by simp)⟩
        · exact ⟨"looks", rfl, gl _ (by simp)⟩
        · exact ⟨"users", rfl, gl _ (by simp)⟩
      refine o_idxR (FV.of (get_app _ _ _) (by omega)) hy ?_
      repeat walk_at "x"
      have F5 := (F3.kp (Kp.app _ _)).tr FV
      exact ⟨F5, F5.le, _, _, gy, rfl⟩
    · refine Br.of_ff (by simp [h4]) ?_
      repeat walk_at "x"
      exact ⟨F3.up (by omega), F3.le, _, _, gz, rfl⟩
  obtain ⟨F4, l4, z, e5, gz, rfl⟩ := H
  have ht4 := F4.of ht h1
  obtain ⟨a, rfl⟩ := S_ex z
  obtain ⟨c, t, rfl⟩ : ∃ c t, a = c :: t := by
    cases a with
    | nil => have := gz.1; rw [len_S] at this; simp at this
    | cons c t => exact ⟨c, t, rfl⟩
  have gz := good_S.mp gz
  have hc : isLt c := gz.2.2 c (by simp)
  obtain ⟨M, hM, hM1, hM2⟩ := free_rot (us := tk) (by omega) (c - 97) t
  have gw : ∀ k, good (wd (c - 97) t k) := fun k => good_S.mpr ⟨by simp, by simpa using gz.2.1, fun d hd => by
    rcases List.mem_cons.mp hd with rfl | hd
    · exact ⟨by omega, by omega⟩
    · exact gz.2.2 d (by simp [hd])⟩
  have e0 : S (c :: t) = wd (c - 97) t 0 := by
    unfold wd
    congr 2
    have := hc.1; have := hc.2
    omega
  rw [e0]
  repeat walk_at "x"
  refine s_while (fun m ρ V => ∃ k, m + k = M ∧ Kp T4 V ∧ ρ = [some (.ref i), some (.ref jt), some (.str (S lt26)), some (.str (wd (c - 97) t k)), some (.int way), e5, some (.str "make use ask call see blind move leave loop out back fit bare as kind def main rest gone"), none]) M ⟨0, by simp, Kp.refl _, rfl⟩ fun m ρ V h => ?_
  obtain ⟨k, hk, KV, rfl⟩ := h
  have step : ∀ {Q' : SR → Prop} (V : Store), Kp T4 V → k ≠ M → WS (sSeq (sSet 3 (vBin oAdd (vBin oIdx (vVar 2) (vBin oMod (vBin oAdd (vSm mIndex (vVar 2) (vsCons (vBin oIdx (vVar 3) (vC (.int 0))) vsNil)) (vC (.int 1))) (vC (.int 26)))) (vSlc (vVar 3) (oSome (vC (.int 1))) oNone))) sNil [some (.ref i), some (.ref jt), some (.str (S lt26)), some (.str (wd (c - 97) t k)), some (.int way), e5, some (.str "make use ask call see blind move leave loop out back fit bare as kind def main rest gone"), none] V) fun o => TurnOk o (fun ρ' S' => ∃ m', m' < m ∧ ∃ k, m' + k = M ∧ Kp T4 S' ∧ ρ' = [some (.ref i), some (.ref jt), some (.str (S lt26)), some (.str (wd (c - 97) t k)), some (.int way), e5, some (.str "make use ask call see blind move leave loop out back fit bare as kind def main rest gone"), none]) Q' := by
    intro Q' V KV hne
    repeat walk_at "x"
    refine o_idxS (y := 97 + (c - 97 + k) % 26) (at0 (97 + (c - 97 + k) % 26) t) ?_
    repeat walk_at "x"
    refine o_index ⟨by omega, by omega⟩ ?_
    repeat walk_at "x"
    refine o_letter (by omega) (by omega) fun _ => ?_
    repeat walk_at "x"
    unfold wd
    rw [sCut, cut_from _ (by omega)]
    refine o_addS (by rw [len_S, len_S]; have := gz.2.1; simp at this ⊢; omega) ?_
    repeat walk_at "x"
    refine ⟨m - 1, by omega, k + 1, by omega, KV, ?_⟩
    rw [S_cat]
    simp only [Int.toNat_one, List.drop_succ_cons, List.drop_zero, List.singleton_append]
    have e : 97 + ((((97 + (c - 97 + k) % 26 - 97 : Nat) : Int) + 1) % 26).toNat = 97 + (c - 97 + (k + 1)) % 26 := by omega
    rw [e]
  repeat walk_at "x"
  refine o_in (in_strs (KV.at ht4) _) ?_
  repeat walk_at "x"
  refine Br.dec (fun h1' => ?_) (fun h1' => ?_)
  · repeat walk_at "b"
    refine step V KV ?_
    rintro rfl
    exact hM1 h1'
  · repeat walk_at "x"
    refine Op.of split_bar ?_
    repeat walk_at "x"
    refine o_in (in_strs (get_app _ _ _) _) ?_
    repeat walk_at "x"
    have K2 := KV.trans (Kp.app V [.lst (barL.map .str)])
    refine Br.dec (fun h2 => ?_) (fun h2 => ?_)
    · refine step _ K2 ?_
      rintro rfl
      exact hM2 h2
    · repeat walk_at "x"
      exact g_fr (F4.kp K2) (lowY _) hi (by rfl) fun U FU uU => q _ U FU uU (gw k) h2 h1'
end
end
/-! Fw242 -/
section
noncomputable def bYWords : TSt := (sSeq (sSet 2 (vNew (lDisp vsNil))) (sSeq (sFor (tgN 3) (iRng (vsCons (vVar 1) vsNil)) (sSeq (sExpr (vLm mAppend (vVar 2) (vsCons (vApp (fnV 2 8 bYWord) (vsCons (vVar 0) (vsCons (vVar 2) vsNil))) vsNil))) sNil)) (sSeq (sRet (vVar 2)) sNil)))
noncomputable def bYOuts : TSt := (sSeq (sSet 5 (vApp (fnV 2 4 bYWords) (vsCons (vVar 0) (vsCons (vBin oAdd (vC (.int 1)) (vApp (fnV 2 4 bYDraw) (vsCons (vVar 0) (vsCons (vBin oAdd (vC (.int 2)) (vBin oMul (vC (.int 4)) (vVar 4))) vsNil)))) vsNil)))) (sSeq (sSet 6 (vBin oEq (vApp (fnV 2 4 bYDraw) (vsCons (vVar 0) (vsCons (vC (.int 4)) vsNil))) (vC (.int 0)))) (sSeq (sSet 7 (vNew (lDisp vsNil))) (sSeq (sFor (tgN 8) (iV (vVar 5)) (sSeq (sSet 9 (vBin oIdx (vNew (lCat (lVal (vVar 2)) (lDisp (vsCons (vC .non) vsNil)))) (vApp (fnV 2 4 bYDraw) (vsCons (vVar 0) (vsCons (vBin oAdd (vCall fLen (vsCons (vVar 2) vsNil)) (vC (.int 1))) vsNil))))) (sSeq (sSet 10 (vC .non)) (sSeq (sIf (bAnd (bBl (vEqL true (lVal (vVar 3)) (lDisp vsNil))) (bBl (vBin oEq (vApp (fnV 2 4 bYDraw) (vsCons (vVar 0) (vsCons (vC (.int 6)) vsNil))) (vC (.int 0))))) (sSeq (sSet 10 (vBin oIdx (vVar 3) (vApp (fnV 2 4 bYDraw) (vsCons (vVar 0) (vsCons (vCall fLen (vsCons (vVar 3) vsNil)) vsNil))))) sNil) sNil) (sSeq (sExpr (vLm mAppend (vVar 7) (vsCons (vBin oIdx (vNew (lDisp (vsCons (vTup (vsCons (vVar 8) (vsCons (vVar 9) (vsCons (vVar 10) vsNil)))) (vsCons (vTup (vsCons (vVar 8) (vsCons (vVar 1) (vsCons (vC .non) vsNil)))) vsNil)))) (vCall fInt (vsCons (vVar 6) vsNil))) vsNil))) sNil))))) (sSeq (sRet (vCall fTup (vsCons (vVar 7) vsNil))) sNil)))))
section
variable {Q : PV → Store → Prop} {E : PX → Store → Prop} {S0 : Store}
theorem ywords_w {i m n : Nat} (hw : HasN i n S0) (hn : n ≤ 800000000) (hm : m ≤ 11)
    (q : ∀ (ws : List Str) (U : Store), Fr (yN (n + 12 * m)) i S0 U → U.length = S0.length + 1 → U[S0.length]? = some (.lst (ws.map .str)) → ws.length = m → ws.Nodup → (∀ z ∈ ws, yw z) → Q (.ref S0.length) U) : W (fnV 2 4 bYWords [.ref i, .int (m : Int)] S0) Q E := by
  have hi := hw.lt
  have big := sizeLine_eq
  refine w_fn rfl ?_
  show WS (bYWords [some (.ref i), some (.int (m : Int)), none, none] S0) _
  unfold bYWords
  repeat walk_at "x"
  refine rng1 ⟨by omega, by omega⟩ ?_
  rw [Int.toNat_natCast]
  refine s_rng (n := m) (fun k ρ T => Fr (yN (n + 12 * k)) i S0 T ∧ S0.length < T.length ∧ ∃ (ws : List Str) (e3 : Option PV), T[S0.length]? = some (.lst (ws.map .str)) ∧ ws.length = k ∧ ws.Nodup ∧ (∀ z ∈ ws, yw z) ∧ ρ = [some (.ref i), some (.int (m : Int)), some (.ref S0.length), e3])
    ⟨((Kp.app S0 _).fr hw).up (by omega), by simp, [], none, get_app _ _ _, rfl, List.nodup_nil, by simp, rfl⟩ (fun k hk ρ T H => ?_) (fun ρ T H => ?_)
  · obtain ⟨F, tl, ws, e3, g, wl, nd, hg, rfl⟩ := H
    repeat walk_at "x"
    refine yword_w (n := n + 12 * k) F.own (by omega) (by omega) g (fun z hz => (hg z hz).1) (by omega) fun z U FU uU gz bz nz => ?_
    have gU := FU.of g (by omega)
    have wl2 : (ws.map PV.str).length < sizeLine := by rw [List.length_map]; omega
    repeat walk_at "x"
    refine ⟨((F.tr FU).up (by omega)).setL (j := S0.length) (Nat.le_refl _) (by omega) _, by rw [List.length_set]; omega, ws ++ [z], _, by rw [List.map_append]; exact get_set gU, by simp; omega, ?_, fun y hy => ?_, rfl⟩
    · rw [List.nodup_append]
      exact ⟨nd, by simp, fun x hx y hy => by rw [List.mem_singleton.mp hy]; rintro rfl; exact nz hx⟩
    · rcases List.mem_append.mp hy with hy | hy
      · exact hg y hy
      · rw [List.mem_singleton.mp hy]; exact ⟨gz, bz⟩
  · obtain ⟨F, tl, ws, e3, g, wl, nd, hg, rfl⟩ := H
    repeat walk_at "x"
    exact g_frNew F (lowY _) hi (Nat.le_refl _) g (lows_strs _ _) fun U FU uU hU => q ws U FU uU hU wl nd hg
theorem youts_w {i js jn n : Nat} {st : List Str} {s : Str} {w : Bool} (hw : HasN i n S0) (hn : n ≤ 700000000) (h1 : js ≠ i) (h2 : jn ≠ i) (hs : S0[js]? = some (.lst (st.map .str))) (hj : S0[jn]? = some (.lst [])) (sl : st.length ≤ 8) (hst : s ∈ st)
    (q : ∀ (os : List Out) (U : Store), Fr (yN (n + 80)) i S0 U → U.length = S0.length → dOuts st os → Q (eOuts os) U) : W (fnV 5 11 bYOuts [.ref i, .str s, .ref js, .ref jn, .int (if w then 1 else 0)] S0) Q E := by
  have hi := hw.lt
  have big := sizeLine_eq
  have hsl := lt_of_get hs
  refine w_fn rfl ?_
  show WS (bYOuts [some (.ref i), some (.str s), some (.ref js), some (.ref jn), some (.int (if w then 1 else 0)), none, none, none, none, none, none] S0) _
  unfold bYOuts
  have wi : (if w = true then (1 : Int) else 0) = 0 ∨ (if w = true then (1 : Int) else 0) = 1 := by cases w <;> simp
  generalize (if w = true then (1 : Int) else 0) = wd at wi
  repeat walk_at "x"
  refine o_mul (.inl (by omega)) ?_
  repeat walk_at "x"
  refine ydraw_w hw (by omega) (by omega) fun r T F u r0 r1 => ?_
  obtain ⟨m, hm, m1, m6⟩ : ∃ m : Nat, (1 : Int) + r = (m : Int) ∧ 1 ≤ m ∧ m ≤ 6 := ⟨(1 + r).toNat, by omega, by omega, by omega⟩
  repeat walk_at "x"
  rw [hm]
  refine ywords_w F.own (by omega) (by omega) fun an V FV uV han al nda hya => ?_
  have F2 := (F.tr FV).up (m := n + 73) (by omega)
  repeat walk_at "x"
  refine ydraw_w F2.own (by omega) (by omega) fun r2 A FA uA r20 r21 => ?_
  have F3 := F2.tr FA
  have haA := FA.of han (by omega)
  have Al := F3.le
  repeat walk_at "x"
  refine s_loop (fun rest ρ X => ∃ (os : List Out) (zs : List Str) (e8 e9 e10 : Option PV), Fr (yN (n + 74 + os.length)) i S0 X ∧ rest = zs.map .str ∧ os.map (·.1) ++ zs = an ∧ (∀ o ∈ os, dOut st [] o) ∧ X[T.length]? = some (.lst (an.map .str)) ∧ X[A.length]? = some (.lst (os.map eOut)) ∧ ρ = [some (.ref i), some (.str s), some (.ref js), some (.ref jn), some (.int wd), some (.ref T.length), some (.bl (r2 == 0)), some (.ref A.length), e8, e9, e10])
    ⟨[], an, none, none, none, F3.kp (Kp.app _ _), rfl, rfl, by simp, get_app_lt haA, get_app _ _ _, rfl⟩ (fun x rest ρ X H => ?_) (fun ρ X H => ?_)
  · obtain ⟨os, zs, e8, e9, e10, FX, hr, hos, hok, hanX, g, rfl⟩ := H
    refine ⟨hanX, ?_⟩
    cases zs with
    | nil => cases hr
    | cons z zs =>
      simp only [List.map_cons, List.cons.injEq] at hr
      obtain ⟨rfl, rfl⟩ := hr
      have ol : os.length < 6 := by have := congrArg List.length hos; simp at this; omega
      have hsX : X[js]? = some (.lst (st.map .str)) := FX.of hs h1
      have hjX : X[jn]? = some (.lst []) := FX.of hj h2
      have Xl := lt_of_get g
      repeat walk_at "x"
      refine ydraw_w (i := i) ((Kp.app X _).fr FX.own).own (by omega) ⟨by omega, by rw [List.length_map]; omega⟩ fun r3 Y FY uY r30 r31 => ?_
      rw [List.length_map] at r31
      obtain ⟨o1, ho1, ho1m⟩ := at_opt (l := st) (n := 1) r30 (by omega)
      refine o_idxR (FY.of (get_app _ _ _) (by omega)) ho1 ?_
      have FXY := (FX.kp (Kp.app X _)).tr FY
      have hjY := FY.of (get_app_lt hjX) h2
      have gY := FY.of (get_app_lt g) (by omega)
      have haY := FY.of (get_app_lt hanX) (by omega)
      repeat walk_at "x"
      refine o_eqE ?_
      rw [show (true != ([] : List PV).isEmpty) = false from rfl]
      have osl : (os.map eOut).length < sizeLine := by rw [List.length_map]; omega
      have gY2 := fun (o : PObj) => get_app_lt (J := [o]) gY
      repeat walk_at "x"
      refine o_idxR (get_app _ _ _) at_two ?_
      obtain ⟨o2, ho2, ho2m⟩ : ∃ o : Out, (if (r2 == 0) = true then PV.tup [.str z, .str s, .non] else PV.tup [.str z, eO o1, .non]) = eOut o ∧ o.1 = z ∧ dOut st [] o := by
        have nz : nm (.str z) = true := (hya z (by rw [← hos]; simp)).nm
        split
        · exact ⟨(z, some s, none), rfl, rfl, nz, fun y hy => by cases hy; exact hst, fun y hy => by cases hy⟩
        · exact ⟨(z, o1, none), rfl, rfl, nz, ho1m, fun y hy => by cases hy⟩
      rw [ho2]
      repeat walk_at "x"
      refine ⟨os ++ [o2], zs, _, _, _, ?_, rfl, by rw [List.map_append, List.append_assoc, ← hos]; simp [ho2m.1], fun o ho => ?_, ?_, ?_, rfl⟩
      · rw [List.length_append, ← Nat.add_assoc]
        exact (FXY.kp (Kp.app _ _)).setL (j := A.length) Al (by omega) _
      · rcases List.mem_append.mp ho with ho | ho
        · exact hok o ho
        · rw [List.mem_singleton.mp ho]; exact ho2m.2
      · show (List.set _ A.length _)[T.length]? = _
        rw [List.getElem?_set_ne (by omega)]; exact get_app_lt haY
      · rw [List.map_append]; exact get_set (get_app_lt gY)
  · obtain ⟨os, zs, e8, e9, e10, FX, hr, hos, hok, hanX, g, rfl⟩ := H
    have : zs = [] := by cases zs with
      | nil => rfl
      | cons _ _ => cases hr
    subst this
    rw [List.append_nil] at hos
    refine ⟨hanX, ?_⟩
    have ol : os.length = m := by have := congrArg List.length hos; rw [List.length_map] at this; omega
    repeat walk_at "x"
    refine g_fr (FX.up (m := n + 80) (by omega)) (lowY _) hi (low_dat _ _ (dat_Outs os)) fun U FU uU => q os U FU uU ⟨?_, by omega, by rw [hos]; exact nda, hok⟩
    rintro rfl
    simp at ol
    omega
end
end
/-! Fw243 -/
section
noncomputable def bYKind : TSt := (sSeq (sSet 4 (vApp (fnV 2 4 bYWords) (vsCons (vVar 0) (vsCons (vBin oAdd (vC (.int 1)) (vApp (fnV 2 4 bYDraw) (vsCons (vVar 0) (vsCons (vBin oAdd (vC (.int 3)) (vBin oMul (vC (.int 5)) (vVar 3))) vsNil)))) vsNil)))) (sSeq (sSet 5 (vApp (fnV 2 4 bYWords) (vsCons (vVar 0) (vsCons (vBin oAdd (vC (.int 1)) (vApp (fnV 2 4 bYDraw) (vsCons (vVar 0) (vsCons (vBin oAdd (vC (.int 3)) (vBin oMul (vC (.int 5)) (vVar 3))) vsNil)))) vsNil)))) (sSeq (sSet 6 (vNew (lDisp vsNil))) (sSeq (sFor (tgN 7) (iV (vVar 4)) (sSeq (sSet 8 (vNew (lComp (tgN 9) (iV (vVar 5)) (bBl (vBin oGt (vApp (fnV 2 4 bYDraw) (vsCons (vVar 0) (vsCons (vC (.int 3)) vsNil))) (vC (.int 0)))) (vVar 9) [9]))) (sSeq (sSet 8 (vNew (lComp (tgN 9) (iV (vVar 8)) bYes (vTup (vsCons (vVar 9) (vsCons (vApp (fnV 5 11 bYOuts) (vsCons (vVar 0) (vsCons (vVar 7) (vsCons (vVar 4) (vsCons (vVar 2) (vsCons (vVar 3) vsNil)))))) vsNil))) [9]))) (sSeq (sExpr (vLm mAppend (vVar 6) (vsCons (vTup (vsCons (vVar 7) (vsCons (vBin oEq (vApp (fnV 2 4 bYDraw) (vsCons (vVar 0) (vsCons (vC (.int 2)) vsNil))) (vC (.int 0))) (vsCons (vCall fTup (vsCons (vVar 8) vsNil)) vsNil)))) vsNil))) sNil)))) (sSeq (sRet (vTup (vsCons (vVar 1) (vsCons (vCall fTup (vsCons (vVar 6) vsNil)) vsNil)))) sNil)))))
/-- all deeds of a kind are of at most eight words -/
def DnOk (k : Kind) : Prop := ∃ dn : List Str, dn.length ≤ 8 ∧ (∀ z ∈ dn, yw z) ∧ ∀ s ∈ k.2, ∀ d ∈ s.2.2, d.1 ∈ dn
section
variable {Q : PV → Store → Prop} {E : PX → Store → Prop} {S0 : Store}
theorem ykind_w {i jn n : Nat} {z : Str} {w : Bool} (hw : HasN i n S0) (hn : n ≤ 600000000) (h2 : jn ≠ i) (hj : S0[jn]? = some (.lst []))
    (q : ∀ (k : Kind) (U : Store), Fr (yN (n + 6000)) i S0 U → U.length = S0.length → k.1 = z → dKind8 [] k → DnOk k → Q (eKd k) U) : W (fnV 4 10 bYKind [.ref i, .str z, .ref jn, .int (if w then 1 else 0)] S0) Q E := by
  have hi := hw.lt
  have big := sizeLine_eq
  refine w_fn rfl ?_
  show WS (bYKind [some (.ref i), some (.str z), some (.ref jn), some (.int (if w then 1 else 0)), none, none, none, none, none, none] S0) _
  unfold bYKind
  have wi : (if w = true then (1 : Int) else 0) = 0 ∨ (if w = true then (1 : Int) else 0) = 1 := by cases w <;> simp
  generalize hwd : (if w = true then (1 : Int) else 0) = wd at wi
  repeat walk_at "x"
  refine o_mul (.inl (by omega)) ?_
  repeat walk_at "x"
  refine ydraw_w hw (by omega) (by omega) fun r T F u r0 r1 => ?_
  obtain ⟨m, hm, m1, m8⟩ : ∃ m : Nat, (1 : Int) + r = (m : Int) ∧ 1 ≤ m ∧ m ≤ 8 := ⟨(1 + r).toNat, by omega, by omega, by omega⟩
  repeat walk_at "x"
  rw [hm]
  refine ywords_w F.own (by omega) (by omega) fun st V FV uV hst sl snd sy => ?_
  have F2 := (F.tr FV).up (m := n + 97) (by omega)
  repeat walk_at "x"
  refine o_mul (.inl (by omega)) ?_
  repeat walk_at "x"
  refine ydraw_w F2.own (by omega) (by omega) fun r2 A FA uA r20 r21 => ?_
  obtain ⟨m2, hm2, m21, m28⟩ : ∃ m : Nat, (1 : Int) + r2 = (m : Int) ∧ 1 ≤ m ∧ m ≤ 8 := ⟨(1 + r2).toNat, by omega, by omega, by omega⟩
  have F3 := F2.tr FA
  have hstA := FA.of hst (by omega)
  repeat walk_at "x"
  rw [hm2]
  refine ywords_w F3.own (by omega) (by omega) fun dn B FB uB hdn dl dnd dy => ?_
  have F4 := (F3.tr FB).up (m := n + 194) (by omega)
  have hstB := FB.of hstA (by omega)
  have hjB := F4.of hj h2
  have Bl := F4.le
  repeat walk_at "x"
  refine s_loop (fun rest ρ X => ∃ (ss : List State) (zs : List Str) (e7 e8 e9 : Option PV), Fr (yN (n + 194 + 700 * ss.length)) i B X ∧ rest = zs.map .str ∧ ss.map (·.1) ++ zs = st ∧ (∀ s ∈ ss, dState8 st [] s ∧ ∀ d ∈ s.2.2, d.1 ∈ dn) ∧ X[B.length]? = some (.lst (ss.map eSt)) ∧ ρ = [some (.ref i), some (.str z), some (.ref jn), some (.int wd), some (.ref T.length), some (.ref A.length), some (.ref B.length), e7, e8, e9])
    ⟨[], st, none, none, none, (Kp.app B _).fr F4.own, rfl, rfl, by simp, get_app _ _ _, rfl⟩ (fun x rest ρ X H => ?_) (fun ρ X H => ?_)
  · obtain ⟨ss, zs, e7, e8, e9, FX, hr, hss, hok, g, rfl⟩ := H
    have hstX := FX.of hstB (by omega)
    refine ⟨hstX, ?_⟩
    cases zs with
    | nil => cases hr
    | cons h zs =>
      simp only [List.map_cons, List.cons.injEq] at hr
      obtain ⟨rfl, rfl⟩ := hr
      have hmem : h ∈ st := by rw [← hss]; simp
      have ssl : ss.length < 8 := by have := congrArg List.length hss; simp at this; omega
      have hdX := FX.of hdn (by omega)
      have hjX := FX.of hjB (by omega)
      have Xl := lt_of_get g
      repeat walk_at "x"
      walk_at "e"
      refine w_turns (fun rest acc Y => ∃ (ks dd ys : List Str), Fr (yN (n + 194 + 700 * ss.length + dd.length)) i X Y ∧ rest = ys.map .str ∧ dd ++ ys = dn ∧ acc = ks.map .str ∧ ks.Sublist dd) ⟨[], [], dn, (Kp.refl X).fr FX.own, rfl, rfl, rfl, .refl _⟩ (fun x rest acc Y H => ?_) (fun acc Y H => ?_)
      · obtain ⟨ks, dd, ys, FY, hr, hdd, rfl, hs⟩ := H
        refine ⟨FY.of hdX (by omega), ?_⟩
        cases ys with
        | nil => cases hr
        | cons y ys =>
          simp only [List.map_cons, List.cons.injEq] at hr
          obtain ⟨rfl, rfl⟩ := hr
          have ddl : dd.length < 8 := by have := congrArg List.length hdd; simp at this; omega
          repeat walk_at "x"
          refine ydraw_w FY.own (by omega) (by omega) fun r3 C FC uC r30 r31 => ?_
          repeat walk_at "x"
          refine Br.both (fun hv => ?_) (fun hv => ?_)
          · repeat walk_at "x"
            exact ⟨ks ++ [y], dd ++ [y], ys, by rw [List.length_append, ← Nat.add_assoc]; exact FY.tr FC, rfl, by rw [List.append_assoc]; exact hdd, by rw [List.map_append]; rfl, hs.append (.refl _)⟩
          · exact ⟨ks, dd ++ [y], ys, by rw [List.length_append, ← Nat.add_assoc]; exact FY.tr FC, rfl, by rw [List.append_assoc]; exact hdd, rfl, hs.trans (List.sublist_append_left _ _)⟩
      obtain ⟨ks, dd, ys, FY, hr, hdd, rfl, hs⟩ := H
      refine ⟨FY.of hdX (by omega), ?_⟩
      have : ys = [] := by cases ys with
        | nil => rfl
        | cons _ _ => cases hr
      subst this
      rw [List.append_nil] at hdd
      subst hdd
      have F5 := FY.up (m := n + 194 + 700 * ss.length + 8) (by omega)
      have ksl : ks.length ≤ 8 := by have := hs.length_le; omega
      have knd : ks.Nodup := hs.nodup dnd
      have Yl := FY.le
      have FY2 := F5.kp (Kp.app Y [PObj.lst (ks.map .str)])
      have hstY := FY2.of hstX (by omega)
      have hjY := FY2.of hjX (by omega)
      have hkY := get_app Y [] (PObj.lst (ks.map .str))
      generalize hY2 : Y ++ [PObj.lst (ks.map PV.str)] = Y2 at FY2 hstY hjY hkY
      have Y2l : Y2.length = Y.length + 1 := by rw [← hY2]; simp
      repeat walk_at "x"
      rw [hY2]
      repeat walk_at "x"
      walk_at "e"
      refine w_turns (fun rest acc Z => ∃ (ds : List Deed) (ys : List Str), Fr (yN (n + 202 + 700 * ss.length + 80 * ds.length)) i X Z ∧ rest = ys.map .str ∧ ds.map (·.1) ++ ys = ks ∧ acc = ds.map eDeed ∧ (∀ d ∈ ds, dDeed st [] d) ∧ Z[Y.length]? = some (.lst (ks.map .str))) ⟨[], ks, FY2.up (by omega), rfl, rfl, rfl, by simp, hkY⟩ (fun x rest acc Z H => ?_) (fun acc Z H => ?_)
      · obtain ⟨ds, ys, FZ, hr, hds, rfl, hdok, hkZ⟩ := H
        refine ⟨hkZ, ?_⟩
        cases ys with
        | nil => cases hr
        | cons y ys =>
          simp only [List.map_cons, List.cons.injEq] at hr
          obtain ⟨rfl, rfl⟩ := hr
          have dsl : ds.length < 8 := by have := congrArg List.length hds; simp at this; omega
          have hyk : y ∈ ks := by rw [← hds]; simp
          have hsZ := FZ.of hstX (by omega)
          have hjZ := FZ.of hjX (by omega)
          repeat walk_at "x"
          rw [← hwd]
          refine youts_w FZ.own (by omega) (by omega) h2 hsZ hjZ (by omega) hmem fun os C FC uC ok => ?_
          repeat walk_at "x"
          refine ⟨ds ++ [(y, os)], ys, ?_, rfl, by rw [List.map_append, List.append_assoc]; exact hds, by rw [List.map_append]; rfl, fun d hd => ?_, FC.of hkZ (by omega)⟩
          · rw [List.length_append, show n + 202 + 700 * ss.length + 80 * (ds.length + [(y, os)].length) = n + 202 + 700 * ss.length + 80 * ds.length + 80 by simp; omega]
            exact FZ.tr FC
          · rcases List.mem_append.mp hd with hd | hd
            · exact hdok d hd
            · rw [List.mem_singleton.mp hd]; exact ⟨(dy y (hs.subset hyk)).nm, ok⟩
      obtain ⟨ds, ys, FZ, hr, hds, rfl, hdok, hkZ⟩ := H
      refine ⟨hkZ, ?_⟩
      have : ys = [] := by cases ys with
        | nil => rfl
        | cons _ _ => cases hr
      subst this
      rw [List.append_nil] at hds
      subst hds
      have dsl : ds.length ≤ 8 := by rw [List.length_map] at ksl; exact ksl
      have gZ := FZ.of g (by omega)
      repeat walk_at "x"
      refine ydraw_w (i := i) (FZ.kp (Kp.app Z [PObj.lst (ds.map eDeed)])).own (by omega) (by omega) fun r4 C FC uC r40 r41 => ?_
      have FCC := (FZ.kp (Kp.app Z [PObj.lst (ds.map eDeed)])).tr FC
      have gC := FC.of (get_app_lt gZ) (by omega)
      have gD := FC.of (get_app Z [] (PObj.lst (ds.map eDeed))) (by have := FZ.le; omega)
      repeat walk_at "x"
      refine ⟨ss ++ [(h, r4 == 0, ds)], zs, _, _, _, ?_, rfl, by rw [List.map_append, List.append_assoc]; exact hss, fun s hs' => ?_, ?_, rfl⟩
      · exact ((FX.tr FCC).setL (j := B.length) (Nat.le_refl _) (by omega) _).up (by rw [List.length_append]; simp; omega)
      · rcases List.mem_append.mp hs' with hs' | hs'
        · exact hok s hs'
        · rw [List.mem_singleton.mp hs']
          exact ⟨⟨hmem, dsl, knd, hdok⟩, fun d hd => hs.subset (List.mem_map_of_mem hd)⟩
      · rw [List.map_append]; exact get_set gC
  · obtain ⟨ss, zs, e7, e8, e9, FX, hr, hss, hok, g, rfl⟩ := H
    refine ⟨FX.of hstB (by omega), ?_⟩
    have : zs = [] := by cases zs with
      | nil => rfl
      | cons _ _ => cases hr
    subst this
    rw [List.append_nil] at hss
    have ssl : ss.length = m := by have := congrArg List.length hss; rw [List.length_map] at this; omega
    repeat walk_at "x"
    refine g_fr ((F4.tr FX).up (m := n + 6000) (by omega)) (lowY _) hi (low_dat _ _ (dat_K z ss)) fun U FU uU => q (z, ss) U FU uU rfl ⟨?_, by show ss.length ≤ 8; omega, ?_, ?_, ?_⟩ ⟨dn, by omega, dy, fun s hs => (hok s hs).2⟩
    · rintro rfl
      simp at ssl
      omega
    · show allN (ss.map (·.1))
      rw [hss]; exact fun y hy => (sy y hy).nm
    · show (ss.map (·.1)).Nodup
      rw [hss]; exact snd
    · show ∀ s ∈ ss, dState8 (ss.map (·.1)) [] s
      rw [hss]; exact fun s hs => (hok s hs).1
end
end
/-! Fw244 -/
section
noncomputable def bYKindHere : TSt := (sSeq (sSet 2 (vApp (fnV 2 4 bYDraw) (vsCons (vVar 0) (vsCons (vC (.int 8)) vsNil)))) (sSeq (sIf (bBl (vBin oLt (vVar 2) (vC (.int 6)))) (sSeq (sRet (vApp (fnV 4 10 bYKind) (vsCons (vVar 0) (vsCons (vApp (fnV 2 8 bYWord) (vsCons (vVar 0) (vsCons (vNew (lDisp vsNil)) vsNil))) (vsCons (vNew (lDisp vsNil)) (vsCons (vBin oMul (vVar 1) (vCall fInt (vsCons (vBin oEq (vVar 2) (vC (.int 5))) vsNil))) vsNil)))))) sNil) sNil) (sSeq (sSet 3 (vApp (fnV 2 4 bYWords) (vsCons (vVar 0) (vsCons (vBin oAdd (vC (.int 3)) (vApp (fnV 2 4 bYDraw) (vsCons (vVar 0) (vsCons (vC (.int 6)) vsNil)))) vsNil)))) (sSeq (sSet 4 (vApp (fnV 2 4 bYWords) (vsCons (vVar 0) (vsCons (vCall fLen (vsCons (vVar 3) vsNil)) vsNil)))) (sSeq (sSet 5 (vApp (fnV 2 4 bYDraw) (vsCons (vVar 0) (vsCons (vBin oAdd (vCall fLen (vsCons (vVar 3) vsNil)) (vC (.int 1))) vsNil)))) (sSeq (sSet 6 (vNew (lDisp vsNil))) (sSeq (sFor (tgN 7) (iRng (vsCons (vCall fLen (vsCons (vVar 3) vsNil)) vsNil)) (sSeq (sSet 8 (vBin oIdx (vNew (lDisp (vsCons (vBin oIdx (vVar 3) (vBin oMod (vBin oAdd (vVar 7) (vC (.int 1))) (vCall fLen (vsCons (vVar 3) vsNil)))) (vsCons (vC .non) vsNil)))) (vCall fInt (vsCons (vAnd (vBin oEq (vVar 5) (vCall fLen (vsCons (vVar 3) vsNil))) (vBin oEq (vBin oAdd (vVar 7) (vC (.int 1))) (vVar 5))) vsNil)))) (sSeq (sExpr (vLm mAppend (vVar 6) (vsCons (vTup (vsCons (vBin oIdx (vVar 3) (vVar 7)) (vsCons (vBin oEq (vVar 7) (vVar 5)) (vsCons (vTup (vsCons (vTup (vsCons (vBin oIdx (vVar 4) (vVar 7)) (vsCons (vTup (vsCons (vTup (vsCons (vStr "ok") (vsCons (vVar 8) (vsCons (vC .non) vsNil)))) vsNil)) vsNil))) vsNil)) vsNil)))) vsNil))) sNil))) (sSeq (sRet (vTup (vsCons (vApp (fnV 2 8 bYWord) (vsCons (vVar 0) (vsCons (vNew (lDisp vsNil)) vsNil))) (vsCons (vCall fTup (vsCons (vVar 6) vsNil)) vsNil)))) sNil))))))))
section
variable {Q : PV → Store → Prop} {E : PX → Store → Prop} {S0 : Store}
theorem ykind_here_w {i n : Nat} (hw : HasN i n S0) (hn : n ≤ 500000000)
    (q : ∀ (k : Kind) (U : Store), Fr (yN (n + 7000)) i S0 U → U.length = S0.length → dKind8 [] k → DnOk k → Q (eKd k) U) : W (fnV 2 9 bYKindHere [.ref i, .int 1] S0) Q E := by
  have hi := hw.lt
  have big := sizeLine_eq
  refine w_fn rfl ?_
  show WS (bYKindHere [some (.ref i), some (.int 1), none, none, none, none, none, none, none] S0) _
  unfold bYKindHere
  repeat walk_at "x"
  refine ydraw_w hw (by omega) (by omega) fun way T F u w0 w1 => ?_
  have Tl := F.le
  repeat walk_at "x"
  refine Br.dec (fun hv => ?_) (fun hv => ?_)
  · repeat walk_at "x"
    have F1 := F.kp (Kp.app T [PObj.lst []])
    refine yword_w (tk := []) F1.own (by omega) (by omega) (get_app _ _ _) (by simp) (by simp) fun z U FU uU gz bz _ => ?_
    have F2 := F1.tr FU
    have Ul := F2.le
    have F3 := F2.kp (Kp.app U [PObj.lst []])
    repeat walk_at "x"
    refine o_mul (.inl (by omega)) ?_
    rw [Int.one_mul]
    repeat walk_at "x"
    refine ykind_w F3.own (by omega) (by omega) (get_app _ _ _) fun k V FV uV kz k8 kd => ?_
    repeat walk_at "x"
    exact g_fr ((F3.tr FV).up (m := n + 7000) (by omega)) (lowY _) hi (low_dat _ _ (dat_K k.1 k.2)) fun X FX uX => q k X FX uX k8 kd
  repeat walk_at "x"
  refine ydraw_w F.own (by omega) (by omega) fun r V FV uV r0 r1 => ?_
  have F1 := F.tr FV
  obtain ⟨m, hm, m3, m8⟩ : ∃ m : Nat, (3 : Int) + r = (m : Int) ∧ 3 ≤ m ∧ m ≤ 8 := ⟨(3 + r).toNat, by omega, by omega, by omega⟩
  repeat walk_at "x"
  rw [hm]
  refine ywords_w F1.own (by omega) (by omega) fun st A FA uA hst sl snd sy => ?_
  have F2 := (F1.tr FA).up (m := n + 98) (by omega)
  repeat walk_at "x"
  rw [List.length_map, sl]
  refine ywords_w F2.own (by omega) (by omega) fun dn B FB uB hdn dl dnd dy => ?_
  have F3 := (F2.tr FB).up (m := n + 194) (by omega)
  have hsB := FB.of hst (by omega)
  repeat walk_at "x"
  rw [List.length_map, sl]
  refine ydraw_w F3.own (by omega) (by omega) fun rst C FC uC c0 c1 => ?_
  have F4 := F3.tr FC
  have hsC := FC.of hsB (by omega)
  have hdC := FC.of hdn (by omega)
  have Cl := F4.le
  repeat walk_at "x"
  rw [List.length_map, sl]
  refine rng1 ⟨by omega, by omega⟩ ?_
  rw [Int.toNat_natCast]
  refine s_rng (n := m) (fun k ρ X => Fr (yN (n + 195)) i C X ∧ ∃ (ss : List State) (e7 e8 : Option PV), ss.map (·.1) = st.take k ∧ (∀ s ∈ ss, dState8 st [] s ∧ ∀ d ∈ s.2.2, d.1 ∈ dn) ∧ X[C.length]? = some (.lst (ss.map eSt)) ∧ ρ = [some (.ref i), some (.int 1), some (.int way), some (.ref V.length), some (.ref A.length), some (.int rst), some (.ref C.length), e7, e8])
    ⟨(Kp.app C _).fr F4.own, [], none, none, by simp, by simp, get_app _ _ _, rfl⟩ (fun k hk ρ X H => ?_) (fun ρ X H => ?_)
  · obtain ⟨FX, ss, e7, e8, hss, hok, g, rfl⟩ := H
    have hsX := FX.of hsC (by omega)
    have hdX := FX.of hdC (by omega)
    have ssl : ss.length = k := by have := congrArg List.length hss; rw [List.length_map, List.length_take] at this; omega
    have ati : ∀ (l : List Str) (c : Nat) (hc : c < l.length), atI (l.map PV.str) (c : Int) = some (.str l[c]) := fun l c hc => by
      unfold atI
      rw [ixN_in (by omega) (by rw [List.length_map]; omega), Int.toNat_natCast]
      simp [hc]
    have cm : (k + 1) % m < m := Nat.mod_lt _ (by omega)
    have osl : (ss.map eSt).length < sizeLine := by rw [List.length_map]; omega
    have Xl := lt_of_get g
    repeat walk_at "x"
    rw [List.length_map, sl]
    refine o_mod (by omega) ?_
    rw [show ((k : Int) + 1) % (m : Int) = (((k + 1) % m : Nat) : Int) from by simp]
    refine o_idxR hsX (ati st _ (by omega)) ?_
    have ho : ∀ b : Bool, ∃ o : Option Str, (if b = true then PV.non else .str (st[(k + 1) % m]'(by omega))) = eO o ∧ nmO o st := fun b => by
      cases b
      · exact ⟨some (st[(k + 1) % m]'(by omega)), rfl, fun y hy => by cases hy; exact List.getElem_mem _⟩
      · exact ⟨none, rfl, fun y hy => by cases hy⟩
    repeat walk_at "x"
    refine Br.both (fun hv1 => ?_) (fun hv1 => ?_)
    · repeat walk_at "x"
      refine o_idxR (get_app _ _ _) at_two ?_
      obtain ⟨o, ho1, ho2⟩ := ho _
      rw [ho1]
      have gX := get_app_lt (J := [PObj.lst [PV.str (st[(k + 1) % m]'(by omega)), PV.non]]) g
      have hsX2 := get_app_lt (J := [PObj.lst [PV.str (st[(k + 1) % m]'(by omega)), PV.non]]) hsX
      have hdX2 := get_app_lt (J := [PObj.lst [PV.str (st[(k + 1) % m]'(by omega)), PV.non]]) hdX
      repeat walk_at "x"
      refine o_idxR hsX2 (ati st k (by omega)) ?_
      repeat walk_at "x"
      refine o_idxR hdX2 (ati dn k (by omega)) ?_
      repeat walk_at "x"
      refine ⟨(FX.kp (Kp.app X _)).setL (j := C.length) (Nat.le_refl _) (by omega) _, ss ++ [((st[k]'(by omega), ((k : Int) == rst), [((dn[k]'(by omega)), [(("ok" : Str), o, none)])]) : State)], _, _, ?_, fun s hs => ?_, ?_, rfl⟩
      · rw [List.map_append, hss, List.take_succ, List.getElem?_eq_getElem (by omega)]; rfl
      · rcases List.mem_append.mp hs with hs | hs
        · exact hok s hs
        · rw [List.mem_singleton.mp hs]
          refine ⟨⟨List.getElem_mem _, by show 1 ≤ 8; omega, by show [_].Nodup; simp, fun d hd => ?_⟩, fun d hd => by rw [List.mem_singleton.mp hd]; exact List.getElem_mem _⟩
          rw [List.mem_singleton.mp hd]
          refine ⟨(dy _ (List.getElem_mem _)).nm, by simp, by show 1 ≤ 6; omega, by show [_].Nodup; simp, fun o' ho' => ?_⟩
          rw [List.mem_singleton.mp ho']
          exact ⟨by show nm (.str ("ok" : Str)) = true; decide +kernel, ho2, fun y hy => by cases hy⟩
      · rw [List.map_append]; exact get_set gX
    · have gX := get_app_lt (J := [PObj.lst [PV.str (st[(k + 1) % m]'(by omega)), PV.non]]) g
      have hsX2 := get_app_lt (J := [PObj.lst [PV.str (st[(k + 1) % m]'(by omega)), PV.non]]) hsX
      have hdX2 := get_app_lt (J := [PObj.lst [PV.str (st[(k + 1) % m]'(by omega)), PV.non]]) hdX
      repeat walk_at "x"
      refine o_idxR hsX2 (ati st k (by omega)) ?_
      repeat walk_at "x"
      refine o_idxR hdX2 (ati dn k (by omega)) ?_
      repeat walk_at "x"
      refine ⟨(FX.kp (Kp.app X _)).setL (j := C.length) (Nat.le_refl _) (by omega) _, ss ++ [((st[k]'(by omega), ((k : Int) == rst), [((dn[k]'(by omega)), [(("ok" : Str), some (st[(k + 1) % m]'(by omega)), none)])]) : State)], _, _, ?_, fun s hs => ?_, ?_, rfl⟩
      · rw [List.map_append, hss, List.take_succ, List.getElem?_eq_getElem (by omega)]; rfl
      · rcases List.mem_append.mp hs with hs | hs
        · exact hok s hs
        · rw [List.mem_singleton.mp hs]
          refine ⟨⟨List.getElem_mem _, by show 1 ≤ 8; omega, by show [_].Nodup; simp, fun d hd => ?_⟩, fun d hd => by rw [List.mem_singleton.mp hd]; exact List.getElem_mem _⟩
          rw [List.mem_singleton.mp hd]
          refine ⟨(dy _ (List.getElem_mem _)).nm, by simp, by show 1 ≤ 6; omega, by show [_].Nodup; simp, fun o' ho' => ?_⟩
          rw [List.mem_singleton.mp ho']
          exact ⟨by show nm (.str ("ok" : Str)) = true; decide +kernel, fun y hy => by cases hy; exact List.getElem_mem _, fun y hy => by cases hy⟩
      · rw [List.map_append]; exact get_set gX
  · obtain ⟨FX, ss, e7, e8, hss, hok, g, rfl⟩ := H
    rw [List.take_of_length_le (by omega)] at hss
    have ssl : ss.length = m := by have := congrArg List.length hss; rw [List.length_map] at this; omega
    have F5 := (F4.tr FX).kp (Kp.app X [PObj.lst []])
    have Xl := F5.le
    repeat walk_at "x"
    refine yword_w (tk := []) F5.own (by omega) (by have := F4.le; have := FX.le; omega) (get_app _ _ _) (by simp) (by simp) fun z U FU uU gz bz _ => ?_
    have gU := FU.of (get_app_lt g) (by omega)
    repeat walk_at "x"
    refine g_fr ((F5.tr FU).up (m := n + 7000) (by omega)) (lowY _) hi (low_dat _ _ (dat_K z ss)) fun Y FY uY => q (z, ss) Y FY uY ⟨?_, by show ss.length ≤ 8; omega, ?_, ?_, ?_⟩ ⟨dn, by omega, dy, fun s hs => (hok s hs).2⟩
    · rintro rfl
      simp at ssl
      omega
    · show allN (ss.map (·.1))
      rw [hss]; exact fun y hy => (sy y hy).nm
    · show (ss.map (·.1)).Nodup
      rw [hss]; exact snd
    · show ∀ s ∈ ss, dState8 (ss.map (·.1)) [] s
      rw [hss]; exact fun s hs => (hok s hs).1
end
end
/-! Fw245 -/
section
local macro_rules | `(tactic| walk_at "f") => `(tactic| (with_reducible first | refine w_lcallL ?_ | refine w_lcallN ?_ | refine w_orT ?_))
/-! ### entries of a dict -/
section
variable {Q : PV → Store → Prop} {E : PX → Store → Prop} {ρ : Env'} {S : Store} {d k z : TV}
theorem w_dsetd (h : W (d ρ S) (fun x S1 => ∃ j kvs0, x = .ref j ∧ S1[j]? = some (.dic kvs0) ∧ W (k ρ S1) (fun y S2 => W (z ρ S2) (fun u S3 => W (dsetd j y u S3) Q E) E) E) E) : W (vDSetD d k z ρ S) Q E := by
  refine W_bind (W_mono h (fun x S1 h => ?_) fun _ _ h => h)
  obtain ⟨j, kvs0, rfl, g, h⟩ := h
  dsimp only
  rw [g]
  exact W_bind (W_mono h (fun y S2 h => W_bind h) fun _ _ h => h)
theorem dsetd_new {j : Nat} {kvs : List (Key × PV)} {w : Str} {u : PV} (g : S[j]? = some (.dic kvs)) (hl : kvs.length < sizeLine) (hn : valP kvs (.inr w) = none) (q : Q u (S.set j (.dic (putP kvs (.inr w) u)))) : W (dsetd j (.str w) u S) Q E := by
  unfold dsetd
  rw [g]
  dsimp only [keyOf]
  rw [if_pos hl, hn]
  exact q
theorem dsetd_old {j : Nat} {kvs : List (Key × PV)} {w : Str} {u v : PV} (g : S[j]? = some (.dic kvs)) (hl : kvs.length < sizeLine) (hn : valP kvs (.inr w) = some v) (q : Q v S) : W (dsetd j (.str w) u S) Q E := by
  unfold dsetd
  rw [g]
  dsimp only [keyOf]
  rw [if_pos hl, hn]
  exact q
end
/-! ### what a kind's deeds lead to, as texts -/
theorem fN_nil {dn : List State} {z : Str} {b : Bool} (x d : Str) : fN (dn ++ [(z, b, [])]) x d = fN dn x d := by
  unfold fN
  rw [List.find?_append]
  cases dn.find? fun s => s.1 == x with
  | some s => rfl
  | none =>
    show (Option.bind ((([(z, b, [])] : List State)).find? fun s => s.1 == x) _) = none
    rw [List.find?_cons]
    cases (z == x) <;> rfl
theorem fN_add {dn : List State} {z : Str} {b : Bool} {ds : List Deed} {e : Deed} (hz : z ∉ dn.map (·.1)) (he : e.1 ∉ ds.map (·.1)) (x d : Str) : fN (dn ++ [(z, b, ds ++ [e])]) x d = updF (fN (dn ++ [(z, b, ds)])) z e.1 (e.2.map nxT) x d := by
  unfold fN updF
  dsimp only
  rw [List.find?_append, List.find?_append]
  by_cases hx : x = z
  · subst hx
    have hn : dn.find? (fun s => s.1 == x) = none := List.find?_eq_none.mpr fun s hs hk => hz (by
      have : s.1 = x := by simpa using hk
      rw [← this]; exact List.mem_map_of_mem hs)
    rw [hn]
    show (Option.bind ((([(x, b, ds ++ [e])] : List State)).find? fun s => s.1 == x) _) = if x = x ∧ d = e.1 then _ else (Option.bind ((([(x, b, ds)] : List State)).find? fun s => s.1 == x) _)
    rw [List.find?_cons, List.find?_cons]
    simp only [beq_self_eq_true, Option.bind_some, true_and]
    rw [List.find?_append]
    by_cases hd : d = e.1
    · subst hd
      have hn2 : ds.find? (fun s => s.1 == e.1) = none := List.find?_eq_none.mpr fun s hs hk => he (by
        have : s.1 = e.1 := by simpa using hk
        rw [← this]; exact List.mem_map_of_mem hs)
      rw [hn2, if_pos rfl]
      simp
    · rw [if_neg hd]
      cases ds.find? fun s => s.1 == d with
      | some s => rfl
      | none =>
        have : (e.1 == d) = false := by simpa using fun h => hd h.symm
        simp [this]
  · rw [if_neg fun h => hx h.1]
    cases dn.find? fun s => s.1 == x with
    | some s => rfl
    | none =>
      have : (z == x) = false := by simpa using fun h => hx h.symm
      simp [this]
end
/-! Fw246 -/
section
noncomputable def bNextsBy : TSt := (sSeq (sSet 1 vDic0) (sSeq (sFor (tgT (tgCons (tgN 2) (tgCons (tgN 3) (tgCons (tgN 4) tgNil)))) (iV (vBin oIdx (vVar 0) (vC (.int 1)))) (sSeq (sFor (tgT (tgCons (tgN 5) (tgCons (tgN 6) tgNil))) (iV (vVar 4)) (sSeq (sSub (vDSetD (vVar 1) (vVar 5) vDic0) (vVar 2) (vNew (lComp (tgT (tgCons (tgN 7) (tgCons (tgN 8) (tgCons (tgN 9) tgNil)))) (iV (vVar 6)) bYes (vOrT (vVar 8) (vStr "")) [7, 8, 9]))) sNil)) sNil)) (sSeq (sRet (vVar 1)) sNil)))
local macro_rules | `(tactic| walk_at "f") => `(tactic| (with_reducible first | refine w_lcallL ?_ | refine w_lcallN ?_ | refine w_orT ?_))
theorem lows_mem {κ : Type} {n : Nat} {p : κ × PV} : ∀ {kvs : List (κ × PV)}, lowK n kvs = true → p ∈ kvs → p.2.low n = true
  | [], _, hp => by cases hp
  | x :: r, h, hp => by
    simp only [lowK, Bool.and_eq_true] at h
    rcases List.mem_cons.mp hp with rfl | hp
    · exact h.1
    · exact lows_mem h.2 hp
theorem valP_mem {kvs : List (Key × PV)} {k : Key} {y : PV} (h : valP kvs k = some y) : ∃ p ∈ kvs, p.2 = y := by
  unfold valP at h
  obtain ⟨p, hp, rfl⟩ := Option.map_eq_some_iff.mp h
  exact ⟨p, List.mem_of_find?_eq_some hp, rfl⟩
section
variable {Q : PV → Store → Prop} {E : PX → Store → Prop} {S0 : Store}
/-- a dict of dicts comes back as it is -/
theorem g_NB {j m : Nat} {F : Str → Str → Option (List Str)} {T : Store} (k : Kp S0 T) (h : NB j S0.length m F T) (q : ∀ j U, Kp S0 U → NB j S0.length m F U → Q (.ref j) U) : W (gcV S0 (.ref j) T) Q E := by
  obtain ⟨kvs, g, hl, inj, h2⟩ := h.top
  have hv : ¬ (PV.ref j).low S0.length = true := by simp [PV.low]; have := h.ge; omega
  unfold gcV
  rw [if_pos k.gc, if_neg hv]
  dsimp only
  rw [g]
  dsimp only
  by_cases hc : S0.length ≤ j ∧ (PObj.dic kvs).low S0.length = true
  · rw [if_pos hc, k.take]
    have hn : ∀ d a, valP kvs (.inr d) ≠ some (.ref a) ∨ a < S0.length := fun d a => by
      by_cases e : valP kvs (.inr d) = some (.ref a)
      · obtain ⟨p, hp, e2⟩ := valP_mem e
        have := lows_mem (n := S0.length) (by have := hc.2; exact this) hp
        rw [e2] at this
        simp only [PV.low, decide_eq_true_eq] at this
        exact .inr this
      · exact .inl e
    refine q S0.length _ (Kp.app _ _) ⟨Nat.le_refl _, kvs, get_app _ _ _, hl, inj, fun d => ?_⟩
    rcases h2 d with h3 | ⟨a, row, h3, h4, _⟩
    · exact .inl h3
    · rcases hn d a with h5 | h5
      · exact absurd h3 h5
      · omega
  · rw [if_neg hc]
    exact q j T k h
theorem nexts_by_w {n : Str} {sts : List State} (k8 : dKind8 [] (n, sts)) (q : ∀ j T, Kp S0 T → NB j S0.length 64 (fN sts) T → Q (.ref j) T) : W (fnV 1 10 bNextsBy [eK n sts] S0) Q E := by
  have big := sizeLine_eq
  obtain ⟨kne, kl, kn, knd, kst⟩ := k8
  have kl : sts.length ≤ 8 := kl
  refine w_fn rfl ?_
  show WS (bNextsBy [some (eK n sts), none, none, none, none, none, none, none, none, none] S0) _
  unfold bNextsBy eK
  repeat walk_at "x"
  refine s_loop (fun rest ρ X => ∃ (dd rs : List State) (e2 e3 e4 e5 e6 : Option PV), sts = dd ++ rs ∧ rest = rs.map eSt ∧ Kp S0 X ∧ NB S0.length S0.length (8 * dd.length) (fN dd) X ∧ ρ = [some (.tup [.str n, .tup (sts.map eSt)]), some (.ref S0.length), e2, e3, e4, e5, e6, none, none, none])
    ⟨[], sts, none, none, none, none, none, rfl, rfl, Kp.app _ _, ⟨Nat.le_refl _, [], get_app _ _ _, Nat.zero_le _, fun _ _ _ h => (by cases h), fun d => .inl ⟨rfl, fun x => rfl⟩⟩, rfl⟩ (fun x rest ρ X H => ?_) (fun ρ X H => ?_)
  · obtain ⟨dd, rs, e2, e3, e4, e5, e6, hs, hr, kx, nb, rfl⟩ := H
    refine ⟨trivial, ?_⟩
    cases rs with
    | nil => cases hr
    | cons s rs =>
      simp only [List.map_cons, List.cons.injEq] at hr
      obtain ⟨rfl, rfl⟩ := hr
      have hz : s.1 ∉ dd.map (·.1) := by
        have knd : (sts.map (·.1)).Nodup := knd
        rw [hs, List.map_append, List.map_cons, List.nodup_append] at knd
        exact fun hm => knd.2.2 _ hm s.1 (by simp) rfl
      obtain ⟨s1, s2, s3, s4⟩ := kst s (by show s ∈ sts; rw [hs]; simp)
      have ddl : dd.length < 8 := by rw [hs] at kl; simp at kl; omega
      unfold eSt
      repeat walk_at "x"
      refine s_loop (fun rest ρ Y => ∃ (d1 ds : List Deed) (e5 e6 : Option PV), s.2.2 = d1 ++ ds ∧ rest = ds.map eDeed ∧ Kp S0 Y ∧ NB S0.length S0.length (8 * dd.length + d1.length) (fN (dd ++ [(s.1, s.2.1, d1)])) Y ∧ ρ = [some (.tup [.str n, .tup (sts.map eSt)]), some (.ref S0.length), some (.str s.1), some (.bl s.2.1), some (.tup (s.2.2.map eDeed)), e5, e6, none, none, none])
        ⟨[], s.2.2, e5, e6, rfl, rfl, kx, nb.congr (fun x d => fN_nil x d) (by simp), rfl⟩ (fun x rest ρ Y H => ?_) (fun ρ Y H => ?_)
      · obtain ⟨d1, ds, e5, e6, hd, hr, ky, nb, rfl⟩ := H
        refine ⟨trivial, ?_⟩
        cases ds with
        | nil => cases hr
        | cons e ds =>
          simp only [List.map_cons, List.cons.injEq] at hr
          obtain ⟨rfl, rfl⟩ := hr
          have he : e.1 ∉ d1.map (·.1) := by
            rw [hd, List.map_append, List.map_cons, List.nodup_append] at s3
            exact fun hm => s3.2.2 _ hm e.1 (by simp) rfl
          have d1l : d1.length < 8 := by rw [hd] at s2; simp at s2; omega
          have Yl := ky.le
          unfold eDeed eOuts
          repeat walk_at "x"
          walk_at "e"
          refine w_pureA (fun o : Out => .str (nxT o)) trivial (fun o ho => ?_) ?_
          · unfold eOut
            repeat walk_at "x"
            have ok := ((s4 e (by rw [hd]; simp)).2.2.2.2 o ho).2.1
            unfold nxT
            cases h : o.2.1 with
            | none =>
              refine Op.of (x := false) rfl ?_
              repeat walk_at "x"
              exact ⟨rfl, rfl⟩
            | some y =>
              have := (kn y (ok y h))
              have yl : 1 ≤ y.length := (nm_tx this).2.2.1
              refine Op.of (x := true) ?_ ?_
              · show some ((y.length : Int) != 0) = some true
                congr 1
                rw [bne_iff_ne]; omega
              repeat walk_at "x"
              exact ⟨rfl, rfl⟩
          rw [show (e.2.map fun o : Out => PV.str (nxT o)) = (e.2.map nxT).map .str from by rw [List.map_map]; rfl]
          repeat walk_at "x"
          obtain ⟨kvs, g, hl, inj, h2⟩ := nb.top
          refine w_dsetd ?_
          repeat walk_at "x"
          refine ⟨S0.length, kvs, rfl, get_app_lt g, ?_⟩
          repeat walk_at "x"
          have gB := get_app_lt (J := [PObj.dic []]) (get_app_lt (J := [PObj.lst ((e.2.map nxT).map PV.str)]) g)
          have kk : Kp S0 ((Y ++ [PObj.lst ((e.2.map nxT).map PV.str)]) ++ [PObj.dic []]) := (ky.trans (Kp.app _ _)).trans (Kp.app _ _)
          have kvl : kvs.length < sizeLine := by omega
          have ll : (Y ++ [PObj.lst ((e.2.map nxT).map PV.str)]).length = Y.length + 1 := by simp
          have fin : ∀ Z, Kp S0 Z → NB S0.length S0.length (8 * dd.length + d1.length + 1) (updF (fN (dd ++ [(s.1, s.2.1, d1)])) s.1 e.1 (e.2.map nxT)) Z → NB S0.length S0.length (8 * dd.length + (d1 ++ [e]).length) (fN (dd ++ [(s.1, s.2.1, d1 ++ [e])])) Z := fun Z _ h => h.congr (fun x d => fN_add hz he x d) (by simp; omega)
          rcases h2 e.1 with h3 | ⟨a, row, h3, h4, h5, h6, h7, h8⟩
          · refine dsetd_new gB kvl h3.1 ?_
            rw [ll]
            repeat walk_at "x"
            have nb2 := nb.new (x := s.1) (l := e.2.map nxT) g Yl h3.1
            have g1 : (((Y ++ [PObj.lst ((e.2.map nxT).map PV.str)]) ++ [PObj.dic []]).set S0.length (.dic (putP kvs (.inr e.1) (.ref (Y.length + 1)))))[Y.length + 1]? = some (.dic []) := by
              rw [List.getElem?_set_ne (by omega)]
              have := get_app (Y ++ [PObj.lst ((e.2.map nxT).map PV.str)]) [] (PObj.dic [])
              rw [ll] at this
              exact this
            refine o_stK g1 (by show 0 < sizeLine; omega) ?_
            repeat walk_at "x"
            have kz : Kp S0 ((((Y ++ [PObj.lst ((e.2.map nxT).map PV.str)]) ++ [PObj.dic []]).set S0.length (.dic (putP kvs (.inr e.1) (.ref (Y.length + 1))))).set (Y.length + 1) (.dic (putP [] (.inr s.1) (.ref Y.length)))) := (kk.setL (Nat.le_refl _) _).setL (by omega) _
            exact ⟨d1 ++ [e], ds, _, _, by rw [hd]; simp, rfl, kz, fin _ kz nb2, rfl⟩
          · refine dsetd_old gB kvl h3 ?_
            repeat walk_at "x"
            have nb2 := nb.old (x := s.1) (l := e.2.map nxT) g Yl h3 h6
            refine o_stK (get_app_lt (get_app_lt h6)) (by omega) ?_
            repeat walk_at "x"
            have kz : Kp S0 (((Y ++ [PObj.lst ((e.2.map nxT).map PV.str)]) ++ [PObj.dic []]).set a (.dic (putP row (.inr s.1) (.ref Y.length)))) := kk.setL h4 _
            exact ⟨d1 ++ [e], ds, _, _, by rw [hd]; simp, rfl, kz, fin _ kz nb2, rfl⟩
      · obtain ⟨d1, ds, e5, e6, hd, hr, ky, nb, rfl⟩ := H
        refine ⟨trivial, ?_⟩
        have : ds = [] := by cases ds with
          | nil => rfl
          | cons _ _ => cases hr
        subst this
        rw [List.append_nil] at hd
        subst hd
        exact ⟨dd ++ [s], rs, _, _, _, _, _, by rw [hs]; simp, rfl, ky, nb.congr (fun x d => rfl) (by simp; omega), rfl⟩
  · obtain ⟨dd, rs, e2, e3, e4, e5, e6, hs, hr, kx, nb, rfl⟩ := H
    refine ⟨trivial, ?_⟩
    have : rs = [] := by cases rs with
      | nil => rfl
      | cons _ _ => cases hr
    subst this
    rw [List.append_nil] at hs
    subst hs
    repeat walk_at "x"
    exact g_NB kx (nb.congr (fun _ _ => rfl) (by omega)) q
end
end
/-! Fw247 -/
section
noncomputable def bMoved22 : TSt := (sSeq (sSet 3 (vDGet2 (vVar 0) (vVar 2) vDic0)) (sSeq (sSet 4 vDic0) (sSeq (sFor (tgN 5) (iV (vVar 1)) (sSeq (sIf (bBl (vBin (oDIn true) (vVar 5) (vVar 3))) (sSeq (sRet (vC .non)) sNil) sNil) (sSeq (sFor (tgN 6) (iV (vBin oDIdx (vVar 3) (vVar 5))) (sSeq (sSub (vVar 4) (vVar 6) (vC (.bl true))) sNil)) sNil))) (sSeq (sRet (vCallL (fun xs => some (.tup xs)) (lCallN fSortD (vsCons (vVar 4) vsNil)))) sNil))))
local macro_rules | `(tactic| walk_at "f") => `(tactic| (with_reducible first | refine w_lcallL ?_ | refine w_lcallN ?_ | refine w_orT ?_))
/-- the texts behind a deed, in order; none where it can't be done in all of them -/
noncomputable def fMov (F : Str → Str → Option (List Str)) (xs : List Str) (d : Str) : Option (List Str) :=
  if (xs.all fun x => (F x d).isSome) = true then some (sortU (xs.flatMap fun x => (F x d).getD [])) else none
def eM : Option (List Str) → PV
  | some l => .tup (l.map .str)
  | none => .non
theorem sortU_congr {l l' : List Str} (h : ∀ z, z ∈ l ↔ z ∈ l') : sortU l = sortU l' := by
  obtain ⟨p, s⟩ := sortU_ok l'
  exact sortU_eq (p.trans ((List.perm_ext_iff_of_nodup (nodup_unlikes l') (nodup_unlikes l)).mpr fun z => by rw [mem_unlikes, mem_unlikes, h])) s
theorem mem_sortU {l : List Str} {z : Str} : z ∈ sortU l ↔ z ∈ l := by rw [(sortU_ok l).1.mem_iff, mem_unlikes]
theorem sortU_len (l : List Str) {al : List Str} (h : ∀ z ∈ l, z ∈ al) : (sortU l).length ≤ al.length := by
  obtain ⟨p, s⟩ := sortU_ok l
  exact (p.nodup_iff.mpr (nodup_unlikes l)).length_le_of_subset fun z hz => h z (mem_sortU.mp hz)
theorem unlikes_fold (a b : List Str) : unlikes (a ++ b) = b.foldl oneMore (unlikes a) := by unfold unlikes; rw [List.foldl_append]
/-- a dict whose entries are all True, one more -/
def dT (ks : List Str) : List (Key × PV) := ks.map fun z => ((Sum.inr z : Key), PV.bl true)
theorem dT_put (ks : List Str) (z : Str) : putP (dT ks) (.inr z) (.bl true) = dT (oneMore ks z) := by
  unfold oneMore putP
  by_cases h : z ∈ ks
  · have ha : ((dT ks).any fun kv => decide (kv.1 = Sum.inr z)) = true := List.any_eq_true.mpr ⟨((Sum.inr z : Key), PV.bl true), List.mem_map_of_mem (f := fun z => ((Sum.inr z : Key), PV.bl true)) h, by simp⟩
    rw [if_pos h, if_pos ha]
    unfold dT
    rw [List.map_map]
    refine List.map_congr_left fun y hy => ?_
    show (if (Sum.inr y : Key) = .inr z then ((Sum.inr y : Key), PV.bl true) else ((Sum.inr y : Key), PV.bl true)) = _
    split <;> rfl
  · rw [if_neg h, if_neg]
    · unfold dT; rw [List.map_append]; rfl
    · intro h2
      obtain ⟨p, hp, e⟩ := List.any_eq_true.mp h2
      obtain ⟨y, hy, rfl⟩ := List.mem_map.mp hp
      have : (Sum.inr y : Key) = .inr z := by simpa using e
      exact h (Sum.inr.inj this ▸ hy)
theorem dT_keys : ∀ ks : List Str, strKeys (dT ks) = some ks
  | [] => rfl
  | k :: ks => by
    show (strKeys (dT ks)).map (fun l => k :: l) = _
    rw [dT_keys ks]; rfl
/-- what F tells is of the texts al -/
structure FAl (F : Str → Str → Option (List Str)) (al : List Str) : Prop where
  len : al.length ≤ 9
  sok : ∀ z ∈ al, SOk z
  inn : ∀ x d l, F x d = some l → l.length ≤ 6 ∧ ∀ z ∈ l, z ∈ al
theorem o_sortD {P : List PV → Prop} {S : Store} {j : Nat} {ks : List Str} (g : S[j]? = some (.dic (dT ks))) (nd : ks.Nodup) (few : ks.length < 64) (ok : ∀ z ∈ ks, SOk z) (q : P ((sortU ks).map .str)) : Op (fSortD [.ref j] S) P :=
  Op.of (by
    unfold fSortD
    dsimp only
    rw [dic_at g, Option.bind_some, dT_keys]
    dsimp only
    rw [if_pos ⟨⟨nd, few⟩, ok⟩]) q
section
variable {Q : PV → Store → Prop} {E : PX → Store → Prop} {S0 : Store}
theorem ymoved_w {j n0 m : Nat} {F : Str → Str → Option (List Str)} {al xs : List Str} {d : Str} (nb : NB j n0 m F S0) (hm : m ≤ 1000) (fa : FAl F al) (q : Q (eM (fMov F xs d)) S0) : W (fnV 3 7 bMoved22 [.ref j, .tup (xs.map .str), .str d] S0) Q E := by
  have big := sizeLine_eq
  obtain ⟨kvs, g, hl, inj, h2⟩ := nb.top
  have jl := lt_of_get g
  refine w_fn rfl ?_
  show WS (bMoved22 [some (.ref j), some (.tup (xs.map .str)), some (.str d), none, none, none, none] S0) _
  unfold bMoved22
  repeat walk_at "x"
  refine w_dget2 ?_
  repeat walk_at "x"
  refine ⟨j, kvs, rfl, g, ?_⟩
  repeat walk_at "x"
  refine dget_str (get_app_lt g) ?_
  -- the row of the deed
  obtain ⟨a, row, ha, ga, rl, hrow⟩ : ∃ a row, (valP kvs (.inr d)).getD (.ref S0.length) = .ref a ∧ (S0 ++ [PObj.dic []])[a]? = some (.dic row) ∧ row.length ≤ 1000 ∧ ∀ x, (valP row (.inr x) = none ∧ F x d = none) ∨ ∃ b l, valP row (.inr x) = some (.ref b) ∧ S0[b]? = some (.lst (l.map .str)) ∧ F x d = some l := by
    rcases h2 d with h3 | ⟨a, row, h3, h4, h5, h6, h7, h8⟩
    · exact ⟨S0.length, [], by rw [h3.1]; rfl, get_app _ _ _, Nat.zero_le _, fun x => .inl ⟨rfl, h3.2 x⟩⟩
    · refine ⟨a, row, by rw [h3]; rfl, get_app_lt h6, by omega, fun x => ?_⟩
      rcases h8 x with h9 | ⟨b, l, h9, h10, h11, h12⟩
      · exact .inl h9
      · exact .inr ⟨b, l, h9, h11, h12⟩
  rw [ha]
  repeat walk_at "x"
  have l1 : (S0 ++ [PObj.dic []]).length = S0.length + 1 := by simp
  have al1 := lt_of_get ga
  rw [l1] at al1
  refine s_loop (fun rest ρ X => Kp S0 X ∧ X[a]? = some (.dic row) ∧ ∃ (dd ys : List Str) (e5 e6 : Option PV), xs = dd ++ ys ∧ rest = ys.map .str ∧ (dd.all fun x => (F x d).isSome) = true ∧ X[(S0 ++ [PObj.dic []]).length]? = some (.dic (dT (unlikes (dd.flatMap fun x => (F x d).getD [])))) ∧ ρ = [some (.ref j), some (.tup (xs.map .str)), some (.str d), some (.ref a), some (.ref (S0 ++ [PObj.dic []]).length), e5, e6])
    ⟨(Kp.app _ _).trans (Kp.app _ _), get_app_lt ga, [], xs, none, none, rfl, rfl, rfl, get_app _ _ _, rfl⟩ (fun x rest ρ X H => ?_) (fun ρ X H => ?_)
  · obtain ⟨kx, gX, dd, ys, e5, e6, hx, hr, hall, gf, rfl⟩ := H
    refine ⟨trivial, ?_⟩
    cases ys with
    | nil => cases hr
    | cons y ys =>
      simp only [List.map_cons, List.cons.injEq] at hr
      obtain ⟨rfl, rfl⟩ := hr
      repeat walk_at "x"
      refine o_dIn rfl (dic_at gX) ?_
      rcases hrow y with h3 | ⟨b, l, h3, h4, h5⟩
      · rw [h3.1]
        rw [show (true != (none : Option PV).isSome) = true from rfl]
        repeat walk_at "x"
        have : fMov F xs d = none := by
          unfold fMov
          rw [if_neg]
          rw [hx, List.all_append, List.all_cons, h3.2]
          simp
        rw [this] at q
        exact g_keep kx (by rfl) q
      · rw [h3]
        rw [show (true != (some (PV.ref b)).isSome) = false from rfl]
        repeat walk_at "x"
        refine o_didx gX rfl h3 ?_
        have gb := kx.at h4
        have bl := lt_of_get h4
        have lal := fa.inn y d l h5
        repeat walk_at "x"
        refine s_loop (fun rest ρ Y => Kp S0 Y ∧ Y[a]? = some (.dic row) ∧ ∃ (l1 l2 : List Str) (e6 : Option PV), l = l1 ++ l2 ∧ rest = l2.map .str ∧ Y[(S0 ++ [PObj.dic []]).length]? = some (.dic (dT (l1.foldl oneMore (unlikes (dd.flatMap fun x => (F x d).getD []))))) ∧ ρ = [some (.ref j), some (.tup (xs.map .str)), some (.str d), some (.ref a), some (.ref (S0 ++ [PObj.dic []]).length), some (.str y), e6])
          ⟨kx, gX, [], l, e6, rfl, rfl, gf, rfl⟩ (fun x rest ρ Y H => ?_) (fun ρ Y H => ?_)
        · obtain ⟨ky, gY, la, lb, e6, hll, hr, gf, rfl⟩ := H
          refine ⟨ky.at h4, ?_⟩
          cases lb with
          | nil => cases hr
          | cons z lb =>
            simp only [List.map_cons, List.cons.injEq] at hr
            obtain ⟨rfl, rfl⟩ := hr
            have sz : (dT (la.foldl oneMore (unlikes (dd.flatMap fun x => (F x d).getD [])))).length ≤ 9 := by
              unfold dT
              rw [List.length_map, ← unlikes_fold]
              refine Nat.le_trans ((nodup_unlikes _).length_le_of_subset (l₂ := al) fun z hz => ?_) fa.len
              rw [mem_unlikes] at hz
              rcases List.mem_append.mp hz with hz | hz
              · obtain ⟨x', hx', hz⟩ := List.mem_flatMap.mp hz
                cases hF : F x' d with
                | none => rw [hF] at hz; cases hz
                | some l' => rw [hF] at hz; exact (fa.inn _ _ _ hF).2 z hz
              · exact lal.2 z (by rw [hll]; exact List.mem_append_left _ hz)
            repeat walk_at "x"
            refine o_stK gf (by omega) ?_
            rw [dT_put]
            repeat walk_at "x"
            refine ⟨ky.setL (by simp) _, by rw [List.getElem?_set_ne (by omega)]; exact gY, la ++ [z], lb, _, by rw [hll]; simp, rfl, by rw [List.foldl_append]; exact get_set gf, rfl⟩
        · obtain ⟨ky, gY, la, lb, e6, hll, hr, gf, rfl⟩ := H
          refine ⟨ky.at h4, ?_⟩
          have : lb = [] := by cases lb with
            | nil => rfl
            | cons _ _ => cases hr
          subst this
          rw [List.append_nil] at hll
          subst hll
          refine ⟨ky, gY, dd ++ [y], ys, _, _, by rw [hx]; simp, rfl, by rw [List.all_append, hall, List.all_cons, h5]; rfl, ?_, rfl⟩
          rw [List.flatMap_append, List.flatMap_cons, List.flatMap_nil, List.append_nil, h5, unlikes_fold]
          exact gf
  · obtain ⟨kx, gX, dd, ys, e5, e6, hx, hr, hall, gf, rfl⟩ := H
    refine ⟨trivial, ?_⟩
    have : ys = [] := by cases ys with
      | nil => rfl
      | cons _ _ => cases hr
    subst this
    rw [List.append_nil] at hx
    subst hx
    have mal : ∀ z ∈ unlikes (xs.flatMap fun x => (F x d).getD []), z ∈ al := fun z hz => by
      rw [mem_unlikes] at hz
      obtain ⟨x', hx', hz⟩ := List.mem_flatMap.mp hz
      cases hF : F x' d with
      | none => rw [hF] at hz; cases hz
      | some l' => rw [hF] at hz; exact (fa.inn _ _ _ hF).2 z hz
    have ml := (nodup_unlikes (xs.flatMap fun x => (F x d).getD [])).length_le_of_subset mal
    have := fa.len
    repeat walk_at "x"
    refine o_sortD gf (nodup_unlikes _) (by omega) (fun z hz => fa.sok z (mal z hz)) ?_
    repeat walk_at "x"
    refine Op.of rfl ?_
    have e : fMov F xs d = some (sortU (unlikes (xs.flatMap fun x => (F x d).getD []))) := by
      unfold fMov
      rw [if_pos hall, sortU_congr fun z => (mem_unlikes _ z).symm]
    rw [e] at q
    repeat walk_at "x"
    exact g_keep kx (low_dat _ _ (by show PV.dats _ = true; exact dats_strs _)) q
end
end
/-! Fw248 -/
section
noncomputable def bStBehind : TSt := (sSeq (sExpr (vApp (fnV 1 1 bCheckPlain) (vsCons (vVar 0) vsNil))) (sSeq (sRet (vApp (fnV 3 7 bMoved22) (vsCons (vApp (fnV 1 10 bNextsBy) (vsCons (vVar 0) vsNil)) (vsCons (vVar 1) (vsCons (vVar 2) vsNil))))) sNil))
noncomputable def bEndsWell : TSt := (sSeq (sRet (vCallL fAll (lComp (tgN 2) (iV (vVar 1)) bYes (vOr (vBin oEq (vVar 2) (vStr "")) (vApp (fnV 2 2 bMayLeft) (vsCons (vVar 0) (vsCons (vVar 2) vsNil)))) [2]))) sNil)
noncomputable def bRowLets : TSt := (sSeq (sExpr (vApp (fnV 1 1 bCheckPlain) (vsCons (vVar 0) vsNil))) (sSeq (sSet 2 (vApp (fnV 1 10 bNextsBy) (vsCons (vVar 0) vsNil))) (sSeq (sSet 3 (vTup (vsCons (vApp (fnV 1 1 bFirst) (vsCons (vVar 0) vsNil)) vsNil))) (sSeq (sFor (tgN 4) (iV (vVar 1)) (sSeq (sSet 3 (vApp (fnV 3 7 bMoved22) (vsCons (vVar 2) (vsCons (vVar 3) (vsCons (vVar 4) vsNil))))) (sSeq (sIf (bBl (vBin oIs (vVar 3) (vC .non))) (sSeq (sRet (vC (.bl false))) sNil) sNil) sNil))) (sSeq (sRet (vApp (fnV 2 3 bEndsWell) (vsCons (vVar 0) (vsCons (vVar 3) vsNil)))) sNil)))))
local macro_rules | `(tactic| walk_at "f") => `(tactic| (with_reducible first | refine w_lcallL ?_ | refine w_lcallN ?_ | refine w_orT ?_))
theorem fN_al {n : Str} {sts : List State} (k8 : dKind8 [] (n, sts)) : FAl (fN sts) ("" :: sts.map (·.1)) where
  len := by have : sts.length ≤ 8 := k8.2.1; simp; omega
  sok := fun z hz => by
    rcases List.mem_cons.mp hz with rfl | hz
    · decide +kernel
    · exact nm_sok (k8.2.2.1 z hz)
  inn := fun x d l h => by
    unfold fN at h
    obtain ⟨s, hs, h⟩ := Option.bind_eq_some_iff.mp h
    obtain ⟨e, he, rfl⟩ := Option.map_eq_some_iff.mp h
    have ks := k8.2.2.2.2 s (List.mem_of_find?_eq_some hs)
    have kd := ks.2.2.2 e (List.mem_of_find?_eq_some he)
    refine ⟨by rw [List.length_map]; exact kd.2.2.1, fun z hz => ?_⟩
    obtain ⟨o, ho, rfl⟩ := List.mem_map.mp hz
    unfold nxT
    cases h : o.2.1 with
    | none => simp
    | some y => exact List.mem_cons_of_mem _ ((kd.2.2.2.2 o ho).2.1 y h)
def fEnds (sts : List State) (x : Str) : Bool := x == "" || (stOf sts x).2.1
noncomputable def fRun (F : Str → Str → Option (List Str)) : List Str → List Str → Option (List Str)
  | xs, [] => some xs
  | xs, d :: ds => match fMov F xs d with
    | none => none
    | some ys => fRun F ys ds
noncomputable def fLet (F : Str → Str → Option (List Str)) (e : Str → Bool) (xs row : List Str) : Bool := match fRun F xs row with
  | none => false
  | some ys => ys.all e
section
variable {Q : PV → Store → Prop} {E : PX → Store → Prop} {S0 : Store}
theorem ystates_behind_w {n : Str} {sts : List State} {xs : List Str} {d : Str} (k8 : dKind8 [] (n, sts)) (q : Q (eM (fMov (fN sts) xs d)) S0) : W (fnV 3 3 bStBehind [eK n sts, .tup (xs.map .str), .str d] S0) Q E := by
  refine w_fn rfl ?_
  show WS (bStBehind [some (eK n sts), some (.tup (xs.map .str)), some (.str d)] S0) _
  unfold bStBehind
  repeat walk_at "x"
  refine check_plain_w (plain_of k8) ?_
  repeat walk_at "x"
  refine nexts_by_w k8 fun j T kt nb => ?_
  repeat walk_at "x"
  refine ymoved_w nb (by omega) (fN_al k8) ?_
  repeat walk_at "x"
  refine g_keep kt ?_ q
  cases fMov (fN sts) xs d with
  | none => rfl
  | some l => exact low_dat _ _ (by show PV.dats _ = true; exact dats_strs _)
theorem yends_well_w {n : Str} {sts : List State} {xs : List Str} (q : Q (.bl (xs.all (fEnds sts))) S0) : W (fnV 2 3 bEndsWell [eK n sts, .tup (xs.map .str)] S0) Q E := by
  refine w_fn rfl ?_
  show WS (bEndsWell [some (eK n sts), some (.tup (xs.map .str)), none] S0) _
  unfold bEndsWell
  repeat walk_at "x"
  walk_at "e"
  refine w_pureA (fun x : Str => .bl (fEnds sts x)) trivial (fun x hx => ?_) ?_
  · repeat walk_at "x"
    unfold fEnds
    refine Br.both (fun hv => ?_) (fun hv => ?_)
    · rw [hv]; exact ⟨rfl, rfl⟩
    · refine may_be_left_w ?_
      rw [hv]; exact ⟨rfl, rfl⟩
  rw [show (xs.map fun x : Str => PV.bl (fEnds sts x)) = (xs.map (fEnds sts)).map .bl from by rw [List.map_map]; rfl]
  refine o_all ?_
  repeat walk_at "x"
  rw [List.all_map] at *
  exact q
theorem yrow_lets_w {n : Str} {sts : List State} {row : List Str} (k8 : dKind8 [] (n, sts)) (q : Q (.bl (fLet (fN sts) (fEnds sts) [fstS (n, sts)] row)) S0) : W (fnV 2 5 bRowLets [eK n sts, .tup (row.map .str)] S0) Q E := by
  refine w_fn rfl ?_
  show WS (bRowLets [some (eK n sts), some (.tup (row.map .str)), none, none, none] S0) _
  unfold bRowLets
  repeat walk_at "x"
  refine check_plain_w (plain_of k8) ?_
  repeat walk_at "x"
  refine nexts_by_w k8 fun j T kt nb => ?_
  repeat walk_at "x"
  refine first_w (k := (n, sts)) k8.1 ?_
  repeat walk_at "x"
  refine s_loop (fun rest ρ X => X = T ∧ ∃ (ys xs : List Str) (e4 : Option PV), rest = ys.map .str ∧ fRun (fN sts) xs ys = fRun (fN sts) [fstS (n, sts)] row ∧ ρ = [some (eK n sts), some (.tup (row.map .str)), some (.ref j), some (.tup (xs.map .str)), e4])
    ⟨rfl, row, [fstS (n, sts)], none, rfl, rfl, rfl⟩ (fun x rest ρ X H => ?_) (fun ρ X H => ?_)
  · obtain ⟨rfl, ys, xs, e4, hr, hf, rfl⟩ := H
    refine ⟨trivial, ?_⟩
    cases ys with
    | nil => cases hr
    | cons y ys =>
      simp only [List.map_cons, List.cons.injEq] at hr
      obtain ⟨rfl, rfl⟩ := hr
      repeat walk_at "x"
      refine ymoved_w nb (by omega) (fN_al k8) ?_
      cases hm : fMov (fN sts) xs y with
      | none =>
        have hf : none = fRun (fN sts) [fstS (n, sts)] row := by rw [← hf]; show none = (match fMov (fN sts) xs y with | none => none | some zs => fRun (fN sts) zs ys); rw [hm]
        repeat walk_at "x"
        refine g_keep kt (by rfl) ?_
        unfold fLet at q
        rw [← hf] at q
        exact q
      | some zs =>
        have hf : fRun (fN sts) zs ys = fRun (fN sts) [fstS (n, sts)] row := by rw [← hf]; show _ = (match fMov (fN sts) xs y with | none => none | some zs => fRun (fN sts) zs ys); rw [hm]
        repeat walk_at "x"
        exact ⟨rfl, ys, zs, _, rfl, hf, rfl⟩
  · obtain ⟨rfl, ys, xs, e4, hr, hf, rfl⟩ := H
    refine ⟨trivial, ?_⟩
    have : ys = [] := by cases ys with
      | nil => rfl
      | cons _ _ => cases hr
    subst this
    repeat walk_at "x"
    refine yends_well_w ?_
    repeat walk_at "x"
    unfold fLet at q
    rw [← hf] at q
    exact q
end
end
/-! Fw249 -/
section
noncomputable def bYRead : TSt := (sSeq (sSet 1 (vDicN (vsCons (vStr "first") (vsCons (vTup (vsCons (vBin oIdx (vBin oIdx (vBin oIdx (vVar 0) (vC (.int 1))) (vC (.int 0))) (vC (.int 0))) vsNil)) (vsCons (vStr "rest") (vsCons (vDic1 (vStr "") (vC (.bl true))) (vsCons (vStr "deeds") (vsCons (vNew (lDisp vsNil)) (vsCons (vStr "nexts") (vsCons vDicN0 vsNil)))))))))) (sSeq (sFor (tgT (tgCons (tgN 2) (tgCons (tgN 3) (tgCons (tgN 4) tgNil)))) (iV (vBin oIdx (vVar 0) (vC (.int 1)))) (sSeq (sSub (vBin oDIdx (vVar 1) (vStr "rest")) (vVar 2) (vVar 3)) (sSeq (sFor (tgT (tgCons (tgN 5) (tgCons (tgN 6) tgNil))) (iV (vVar 4)) (sSeq (sSubN (vBin oDIdx (vVar 1) (vStr "nexts")) (vTup (vsCons (vVar 2) (vsCons (vVar 5) vsNil))) (vNew (lComp (tgN 7) (iV (vVar 6)) bYes (vOrT (vBin oIdx (vVar 7) (vC (.int 1))) (vStr "")) [7]))) (sSeq (sIf (bBl (vBin oNotIn (vVar 5) (vBin oDIdx (vVar 1) (vStr "deeds")))) (sSeq (sExpr (vLm mAppend (vBin oDIdx (vVar 1) (vStr "deeds")) (vsCons (vVar 5) vsNil))) sNil) sNil) sNil))) sNil))) (sSeq (sRet (vVar 1)) sNil)))
local macro_rules | `(tactic| walk_at "f") => `(tactic| (with_reducible first | refine w_lcallL ?_ | refine w_lcallN ?_ | refine w_orT ?_))
local macro_rules | `(tactic| walk_at "x") => `(tactic| (with_reducible refine s_subN ?_))
/-! ### entries of a dict with tuple keys -/
theorem rd_f {z : Str} {jr jd jn : Nat} : valP (rdKv z jr jd jn) (.inr "first") = some (.tup [.str z]) := valP_pos rfl
theorem rd_r {z : Str} {jr jd jn : Nat} : valP (rdKv z jr jd jn) (.inr "rest") = some (.ref jr) := by
  unfold rdKv
  rw [valP_neg (show ¬ (Sum.inr "first" : Key) = .inr "rest" by decide +kernel), valP_pos rfl]
theorem rd_d {z : Str} {jr jd jn : Nat} : valP (rdKv z jr jd jn) (.inr "deeds") = some (.ref jd) := by
  unfold rdKv
  rw [valP_neg (show ¬ (Sum.inr "first" : Key) = .inr "deeds" by decide +kernel), valP_neg (show ¬ (Sum.inr "rest" : Key) = .inr "deeds" by decide +kernel), valP_pos rfl]
theorem rd_n {z : Str} {jr jd jn : Nat} : valP (rdKv z jr jd jn) (.inr "nexts") = some (.ref jn) := by
  unfold rdKv
  rw [valP_neg (show ¬ (Sum.inr "first" : Key) = .inr "nexts" by decide +kernel), valP_neg (show ¬ (Sum.inr "rest" : Key) = .inr "nexts" by decide +kernel), valP_neg (show ¬ (Sum.inr "deeds" : Key) = .inr "nexts" by decide +kernel), valP_pos rfl]
section
variable {Q : PV → Store → Prop} {E : PX → Store → Prop} {S0 : Store}
theorem yread_w {n : Str} {sts : List State} (k8 : dKind8 [] (n, sts)) (hd : DnOk (n, sts)) (q : ∀ j jr jd jn dn T, Kp S0 T → RdOk sts (fstS (n, sts)) j jr jd jn S0.length dn T → T[jr]? = some (.dic (rsKv sts)) → Q (.ref j) T) : W (fnV 1 8 bYRead [eK n sts] S0) Q E := by
  have big := sizeLine_eq
  obtain ⟨kne, kl, kn, knd, kst⟩ := k8
  have kl : sts.length ≤ 8 := kl
  have knd : (sts.map (·.1)).Nodup := knd
  obtain ⟨dA, dA8, dAy, dAi⟩ := hd
  obtain ⟨s0, ss0, hs0⟩ : ∃ s ss, sts = s :: ss := by
    cases sts with
    | nil => exact absurd rfl kne
    | cons s ss => exact ⟨s, ss, rfl⟩
  have hfst : fstS (n, sts) = s0.1 := by rw [hs0]; rfl
  rw [hfst] at q
  refine w_fn rfl ?_
  show WS (bYRead [some (eK n sts), none, none, none, none, none, none, none] S0) _
  unfold bYRead eK
  repeat walk_at "x"
  refine w_dicN ?_
  repeat walk_at "x"
  refine o_idxT (y := eSt s0) (by rw [hs0]; exact at0 _ _) ?_
  unfold eSt
  repeat walk_at "x"
  refine Op.of rfl ?_
  repeat walk_at "x"
  refine Op.of rfl ⟨by show 4 ≤ 15; omega, ?_⟩
  have x0 : (((S0 ++ [PObj.dic [((Sum.inr "" : Key), PV.bl true)]]) ++ [PObj.lst []]) ++ [PObj.dicN []])[S0.length]? = some (.dic [((Sum.inr "" : Key), PV.bl true)]) := get_app_lt (get_app_lt (get_app _ _ _))
  have x1 : (((S0 ++ [PObj.dic [((Sum.inr "" : Key), PV.bl true)]]) ++ [PObj.lst []]) ++ [PObj.dicN []])[(S0 ++ [PObj.dic [((Sum.inr "" : Key), PV.bl true)]]).length]? = some (.lst []) := get_app_lt (get_app _ _ _)
  have x2 : (((S0 ++ [PObj.dic [((Sum.inr "" : Key), PV.bl true)]]) ++ [PObj.lst []]) ++ [PObj.dicN []])[((S0 ++ [PObj.dic [((Sum.inr "" : Key), PV.bl true)]]) ++ [PObj.lst []]).length]? = some (.dicN []) := get_app _ _ _
  have xk : Kp S0 (((S0 ++ [PObj.dic [((Sum.inr "" : Key), PV.bl true)]]) ++ [PObj.lst []]) ++ [PObj.dicN []]) := ((Kp.app _ _).trans (Kp.app _ _)).trans (Kp.app _ _)
  have ln : (((S0 ++ [PObj.dic [((Sum.inr "" : Key), PV.bl true)]]) ++ [PObj.lst []]) ++ [PObj.dicN []]).length = S0.length + 3 := by simp
  generalize hjn : ((S0 ++ [PObj.dic [((Sum.inr "" : Key), PV.bl true)]]) ++ [PObj.lst []]).length = jn at *
  have hjn2 : jn = S0.length + 2 := by rw [← hjn]; simp
  generalize ((S0 ++ [PObj.dic [((Sum.inr "" : Key), PV.bl true)]]) ++ [PObj.lst []]) ++ [PObj.dicN []] = T at *
  generalize hjd : (S0 ++ [PObj.dic [((Sum.inr "" : Key), PV.bl true)]]).length = jd at *
  have hjd2 : jd = S0.length + 1 := by rw [← hjd]; simp
  have dn4 : [(Sum.inr "first" : Key), .inr "rest", .inr "deeds", .inr "nexts"].Nodup := by decide +kernel
  rw [show mergeP [] [((Sum.inr "first" : Key), PV.tup [.str s0.1]), ((Sum.inr "rest" : Key), .ref S0.length), ((Sum.inr "deeds" : Key), .ref jd), ((Sum.inr "nexts" : Key), .ref jn)] = rdKv s0.1 S0.length jd jn from merge_nd (acc := []) dn4]
  repeat walk_at "x"
  refine s_loop (fun rest ρ X => ∃ (dd rs : List State) (dn : List Str) (e2 e3 e4 e5 e6 : Option PV), sts = dd ++ rs ∧ rest = rs.map eSt ∧ Kp S0 X ∧ S0.length + 4 ≤ X.length ∧ X[T.length]? = some (.dic (rdKv s0.1 S0.length jd jn)) ∧ X[S0.length]? = some (.dic (rsKv dd)) ∧ X[jd]? = some (.lst (dn.map .str)) ∧ dn.Nodup ∧ (∀ z ∈ dn, z ∈ dA) ∧ NxN jn (S0.length + 4) (8 * dd.length) (fN dd) X ∧ ρ = [some (.tup [.str n, .tup (sts.map eSt)]), some (.ref T.length), e2, e3, e4, e5, e6, none])
    ⟨[], sts, [], none, none, none, none, none, rfl, rfl, xk.trans (Kp.app _ _), by simp; omega, get_app _ _ _, get_app_lt x0, get_app_lt x1, List.nodup_nil, by simp, ⟨[], get_app_lt x2, Nat.zero_le _, fun x d => .inl ⟨rfl, rfl⟩⟩, rfl⟩ (fun x rest ρ X H => ?_) (fun ρ X H => ?_)
  · obtain ⟨dd, rs, dn, e2, e3, e4, e5, e6, hs, hr, kx, xl, gj, gr, gd, dnn, dni, nx, rfl⟩ := H
    refine ⟨trivial, ?_⟩
    cases rs with
    | nil => cases hr
    | cons s rs =>
      simp only [List.map_cons, List.cons.injEq] at hr
      obtain ⟨rfl, rfl⟩ := hr
      have hz : s.1 ∉ dd.map (·.1) := by
        rw [hs, List.map_append, List.map_cons, List.nodup_append] at knd
        exact fun hm => knd.2.2 _ hm s.1 (by simp) rfl
      have hsm : s ∈ sts := by rw [hs]; simp
      obtain ⟨s1, s2, s3, s4⟩ := kst s hsm
      have ddl : dd.length < 8 := by rw [hs] at kl; simp at kl; omega
      have hne : s.1 ≠ "" := fun e => by
        have := (nm_tx (kn s.1 (List.mem_map_of_mem hsm))).2.2.1
        rw [e] at this
        exact absurd this (by decide +kernel)
      rw [show eSt s = PV.tup [.str s.1, .bl s.2.1, .tup (s.2.2.map eDeed)] from rfl]
      repeat walk_at "x"
      refine o_didx gj rfl rd_r ?_
      repeat walk_at "x"
      refine o_stK gr (by unfold rsKv; rw [List.length_cons, List.length_map]; omega) ?_
      rw [putP_new (by
        unfold rsKv
        rw [List.map_cons, List.map_map]
        intro hm
        rcases List.mem_cons.mp hm with e | hm
        · exact hne (Sum.inr.inj e)
        · obtain ⟨y, hy, e⟩ := List.mem_map.mp hm
          exact hz (List.mem_map.mpr ⟨y, hy, Sum.inr.inj e⟩))]
      have ers : rsKv dd ++ [((Sum.inr s.1 : Key), PV.bl s.2.1)] = rsKv (dd ++ [s]) := by unfold rsKv; rw [List.map_append]; rfl
      rw [ers]
      have kx2 : Kp S0 (X.set S0.length (.dic (rsKv (dd ++ [s])))) := kx.setL (Nat.le_refl _) _
      have gj2 : (X.set S0.length (.dic (rsKv (dd ++ [s]))))[T.length]? = some (.dic (rdKv s0.1 S0.length jd jn)) := by rw [List.getElem?_set_ne (by omega)]; exact gj
      have gr2 : (X.set S0.length (.dic (rsKv (dd ++ [s]))))[S0.length]? = some (.dic (rsKv (dd ++ [s]))) := get_set gr
      have gd2 : (X.set S0.length (.dic (rsKv (dd ++ [s]))))[jd]? = some (.lst (dn.map .str)) := by rw [List.getElem?_set_ne (by omega)]; exact gd
      have nx2 : NxN jn (S0.length + 4) (8 * dd.length) (fN (dd ++ [(s.1, s.2.1, [])])) (X.set S0.length (.dic (rsKv (dd ++ [s])))) := (nx.keep (fun kv h => by rw [List.getElem?_set_ne (by omega)]; exact h) (fun b xs hb h => by rw [List.getElem?_set_ne (by omega)]; exact h)).congr (fun x d => fN_nil x d) (Nat.le_refl _)
      have xl2 : S0.length + 4 ≤ (X.set S0.length (.dic (rsKv (dd ++ [s])))).length := by rw [List.length_set]; exact xl
      generalize X.set S0.length (.dic (rsKv (dd ++ [s]))) = X2 at *
      repeat walk_at "x"
      refine s_loop (fun rest ρ Y => ∃ (d1 ds : List Deed) (dn : List Str) (e5 e6 : Option PV), s.2.2 = d1 ++ ds ∧ rest = ds.map eDeed ∧ Kp S0 Y ∧ S0.length + 4 ≤ Y.length ∧ Y[T.length]? = some (.dic (rdKv s0.1 S0.length jd jn)) ∧ Y[S0.length]? = some (.dic (rsKv (dd ++ [s]))) ∧ Y[jd]? = some (.lst (dn.map .str)) ∧ dn.Nodup ∧ (∀ z ∈ dn, z ∈ dA) ∧ NxN jn (S0.length + 4) (8 * dd.length + d1.length) (fN (dd ++ [(s.1, s.2.1, d1)])) Y ∧ ρ = [some (.tup [.str n, .tup (sts.map eSt)]), some (.ref T.length), some (.str s.1), some (.bl s.2.1), some (.tup (s.2.2.map eDeed)), e5, e6, none])
        ⟨[], s.2.2, dn, e5, e6, rfl, rfl, kx2, xl2, gj2, gr2, gd2, dnn, dni, nx2, rfl⟩ (fun x rest ρ Y H => ?_) (fun ρ Y H => ?_)
      · obtain ⟨d1, ds, dn, e5, e6, hd, hr, ky, yl, gj, gr, gd, dnn, dni, nx, rfl⟩ := H
        refine ⟨trivial, ?_⟩
        cases ds with
        | nil => cases hr
        | cons e ds =>
          simp only [List.map_cons, List.cons.injEq] at hr
          obtain ⟨rfl, rfl⟩ := hr
          have he : e.1 ∉ d1.map (·.1) := by
            rw [hd, List.map_append, List.map_cons, List.nodup_append] at s3
            exact fun hm => s3.2.2 _ hm e.1 (by simp) rfl
          have d1l : d1.length < 8 := by rw [hd] at s2; simp at s2; omega
          have hem : e ∈ s.2.2 := by rw [hd]; simp
          unfold eDeed eOuts
          repeat walk_at "x"
          walk_at "e"
          refine w_pureA (fun o : Out => .str (nxT o)) trivial (fun o ho => ?_) ?_
          · unfold eOut
            repeat walk_at "x"
            have ok := ((s4 e hem).2.2.2.2 o ho).2.1
            unfold nxT
            cases h : o.2.1 with
            | none =>
              refine Op.of (x := false) rfl ?_
              repeat walk_at "x"
              exact ⟨rfl, rfl⟩
            | some y =>
              have := (kn y (ok y h))
              have yl : 1 ≤ y.length := (nm_tx this).2.2.1
              refine Op.of (x := true) ?_ ?_
              · show some ((y.length : Int) != 0) = some true
                congr 1
                rw [bne_iff_ne]; omega
              repeat walk_at "x"
              exact ⟨rfl, rfl⟩
          rw [show (e.2.map fun o : Out => PV.str (nxT o)) = (e.2.map nxT).map .str from by rw [List.map_map]; rfl]
          repeat walk_at "x"
          refine o_didx (get_app_lt gj) rfl rd_n ?_
          repeat walk_at "x"
          obtain ⟨kv, g, hl, h2⟩ := nx.top
          refine o_stN (key_p2 (s.1, e.1)) (get_app_lt g) (by omega) ?_
          have nx3 := (nx.put (x := s.1) (d := e.1) (l := e.2.map nxT) g yl).congr (m' := 8 * dd.length + (d1 ++ [e]).length) (fun x d => fN_add hz he x d) (by simp; omega)
          have jnl := lt_of_get g
          have kz : Kp S0 ((Y ++ [PObj.lst ((e.2.map nxT).map PV.str)]).set jn (.dicN (putN kv (eP2 (s.1, e.1)) (nP2 (s.1, e.1)) (.ref Y.length)))) := (ky.trans (Kp.app _ _)).setL (by omega) _
          have sw : ∀ (c : Nat) (o : PObj), c ≠ jn → Y[c]? = some o → ((Y ++ [PObj.lst ((e.2.map nxT).map PV.str)]).set jn (.dicN (putN kv (eP2 (s.1, e.1)) (nP2 (s.1, e.1)) (.ref Y.length))))[c]? = some o := fun c o hc h => by
            rw [List.getElem?_set_ne (Ne.symm hc)]; exact get_app_lt h
          have gj3 := sw _ _ (by omega) gj
          have gr3 := sw _ _ (by omega) gr
          have gd3 := sw _ _ (by omega) gd
          have yl3 : S0.length + 4 ≤ ((Y ++ [PObj.lst ((e.2.map nxT).map PV.str)]).set jn (.dicN (putN kv (eP2 (s.1, e.1)) (nP2 (s.1, e.1)) (.ref Y.length)))).length := by simp; omega
          show WS _ _
          rw [show PV.tup [PV.str s.1, .str e.1] = eP2 (s.1, e.1) from rfl]
          generalize ((Y ++ [PObj.lst ((e.2.map nxT).map PV.str)]).set jn (.dicN (putN kv (eP2 (s.1, e.1)) (nP2 (s.1, e.1)) (.ref Y.length)))) = Z at *
          repeat walk_at "x"
          refine o_didx gj3 rfl rd_d ?_
          repeat walk_at "x"
          refine o_notIn (in_strs gd3 e.1) ?_
          repeat walk_at "x"
          by_cases hin : e.1 ∈ dn
          · refine Br.of_ff (by simp [hin]) ?_
            repeat walk_at "x"
            exact ⟨d1 ++ [e], ds, dn, _, _, by rw [hd]; simp, rfl, kz, yl3, gj3, gr3, gd3, dnn, dni, nx3, rfl⟩
          · refine Br.of_tt (by simp [hin]) ?_
            have dl := dnn.length_le_of_subset dni
            repeat walk_at "x"
            refine o_didx gj3 rfl rd_d ?_
            repeat walk_at "x"
            refine ⟨d1 ++ [e], ds, dn ++ [e.1], _, _, by rw [hd]; simp, rfl, kz.setL (j := jd) (by omega) _, ?_, ?_, ?_, ?_, ?_, fun z hz => ?_, nx3.keep (fun kv h => ?_) (fun b xs hb h => ?_), rfl⟩
            · show _ ≤ (List.set _ jd _).length; rw [List.length_set]; exact yl3
            · show (List.set _ jd _)[T.length]? = _; rw [List.getElem?_set_ne (by omega)]; exact gj3
            · show (List.set _ jd _)[S0.length]? = _; rw [List.getElem?_set_ne (by omega)]; exact gr3
            · rw [List.map_append]; exact get_set gd3
            · rw [List.nodup_append]
              exact ⟨dnn, by simp, fun x hx y hy => by rw [List.mem_singleton.mp hy]; rintro rfl; exact hin hx⟩
            · rcases List.mem_append.mp hz with hz | hz
              · exact dni z hz
              · rw [List.mem_singleton.mp hz]; exact dAi s hsm e hem
            · show (List.set _ jd _)[jn]? = _; rw [List.getElem?_set_ne (by omega)]; exact h
            · show (List.set _ jd _)[b]? = _; rw [List.getElem?_set_ne (by omega)]; exact h
      · obtain ⟨d1, ds, dn, e5, e6, hd, hr, ky, yl, gj, gr, gd, dnn, dni, nx, rfl⟩ := H
        refine ⟨trivial, ?_⟩
        have : ds = [] := by cases ds with
          | nil => rfl
          | cons _ _ => cases hr
        subst this
        rw [List.append_nil] at hd
        subst hd
        exact ⟨dd ++ [s], rs, dn, _, _, _, _, _, by rw [hs]; simp, rfl, ky, yl, gj, gr, gd, dnn, dni, nx.congr (fun x d => rfl) (by simp; omega), rfl⟩
  · obtain ⟨dd, rs, dn, e2, e3, e4, e5, e6, hs, hr, kx, xl, gj, gr, gd, dnn, dni, nx, rfl⟩ := H
    refine ⟨trivial, ?_⟩
    have : rs = [] := by cases rs with
      | nil => rfl
      | cons _ _ => cases hr
    subst this
    rw [List.append_nil] at hs
    subst hs
    repeat walk_at "x"
    have hv : ¬ (PV.ref T.length).low S0.length = true := by simp [PV.low]; omega
    have ho : ¬ (S0.length ≤ T.length ∧ (PObj.dic (rdKv s0.1 S0.length jd jn)).low S0.length = true) := by
      intro h
      have := h.2
      simp [PObj.low, rdKv, lowK, PV.low] at this
    unfold gcV
    rw [if_pos kx.gc, if_neg hv]
    dsimp only
    rw [gj]
    dsimp only
    rw [if_neg ho]
    refine q T.length S0.length jd jn dn X kx ⟨gj, dic_at gr, gd, ?_, by omega, by omega, by have := dnn.length_le_of_subset dni; omega, fun z hz => dAy z (dni z hz)⟩ gr
    have nx := nx.congr (m' := 64) (fun _ _ => rfl) (by omega)
    obtain ⟨kv, g, hl, h2⟩ := nx.top
    refine ⟨kv, g, hl, fun x d => ?_⟩
    rcases h2 x d with h3 | ⟨b, l, h3, h4, h5⟩
    · exact .inl h3
    · exact .inr ⟨b, l, h3, by omega, h5⟩
end
end
/-! Fw250 -/
section
noncomputable def bYNext : TSt := (sSeq (sSet 3 (vNew (lDisp vsNil))) (sSeq (sFor (tgN 4) (iV (vVar 1)) (sSeq (sIf (bBl (vBin (oNIn true) (vTup (vsCons (vVar 4) (vsCons (vVar 2) vsNil))) (vBin oDIdx (vVar 0) (vStr "nexts")))) (sSeq (sRet (vC .non)) sNil) sNil) (sSeq (sExpr (vExt (vVar 3) (lVal (vBin oNIdx (vBin oDIdx (vVar 0) (vStr "nexts")) (vTup (vsCons (vVar 4) (vsCons (vVar 2) vsNil))))))) sNil))) (sSeq (sRet (vCallL (fun xs => some (.tup xs)) (lSortSet (vVar 3)))) sNil)))
noncomputable def bYEnds : TSt := (sSeq (sRet (vCallL fAll (lComp (tgN 2) (iV (vVar 1)) bYes (vBin oDIdx (vBin oDIdx (vVar 0) (vStr "rest")) (vVar 2)) [2]))) sNil)
noncomputable def bYLets : TSt := (sSeq (sSet 2 (vBin oDIdx (vVar 0) (vStr "first"))) (sSeq (sFor (tgN 3) (iV (vVar 1)) (sSeq (sSet 2 (vApp (fnV 3 5 bYNext) (vsCons (vVar 0) (vsCons (vVar 2) (vsCons (vVar 3) vsNil))))) (sSeq (sIf (bBl (vBin oIs (vVar 2) (vC .non))) (sSeq (sRet (vC (.bl false))) sNil) sNil) sNil))) (sSeq (sRet (vApp (fnV 2 3 bYEnds) (vsCons (vVar 0) (vsCons (vVar 2) vsNil)))) sNil)))
noncomputable def bYSays : TSt := (sSeq (sRet (vAnd (vIsi "bool" (vVar 0)) (vBin oEq (vVar 0) (vVar 1)))) sNil)
local macro_rules | `(tactic| walk_at "f") => `(tactic| (with_reducible first | refine w_lcallL ?_ | refine w_lcallN ?_ | refine w_orT ?_ | refine w_sortSet ?_))
theorem stOf_at {sts : List State} (nd : (sts.map (·.1)).Nodup) {s : State} (h : s ∈ sts) : stOf sts s.1 = s := by
  unfold stOf
  induction sts with
  | nil => cases h
  | cons t ts ih =>
    rw [List.find?_cons]
    by_cases e : t.1 = s.1
    · have : (t.1 == s.1) = true := by simpa using e
      rw [this]
      rcases List.mem_cons.mp h with rfl | h
      · rfl
      · rw [List.map_cons, List.nodup_cons] at nd
        exact absurd (List.mem_map_of_mem (f := (·.1)) h) (by rw [← e]; exact nd.1)
    · have : (t.1 == s.1) = false := by simpa using e
      rw [this]
      rw [List.map_cons, List.nodup_cons] at nd
      rcases List.mem_cons.mp h with rfl | h
      · exact absurd rfl e
      · exact ih nd.2 h
theorem rs_at {n : Str} {sts : List State} (k8 : dKind8 [] (n, sts)) {x : Str} (hx : x ∈ ("" : Str) :: sts.map (·.1)) : valP (rsKv sts) (.inr x) = some (.bl (fEnds sts x)) := by
  have nd : (sts.map (·.1)).Nodup := k8.2.2.2.1
  have kn : allN (sts.map (·.1)) := k8.2.2.1
  by_cases e : x = ""
  · subst e
    unfold rsKv
    rw [valP_pos rfl]
    rfl
  · have hx := (List.mem_cons.mp hx).resolve_left e
    have he : fEnds sts x = (stOf sts x).2.1 := by
      unfold fEnds
      have : (x == "") = false := by simpa using e
      rw [this, Bool.false_or]
    rw [he]
    unfold rsKv
    rw [valP_neg fun h => e (Sum.inr.inj h).symm]
    clear he
    obtain ⟨s, hs, rfl⟩ := List.mem_map.mp hx
    rw [stOf_at nd hs]
    clear hx kn k8 e
    induction sts with
    | nil => cases hs
    | cons t ts ih =>
      rw [List.map_cons]
      rw [List.map_cons, List.nodup_cons] at nd
      by_cases e : t.1 = s.1
      · rcases List.mem_cons.mp hs with rfl | h
        · exact valP_pos rfl
        · exact absurd (List.mem_map_of_mem (f := (·.1)) h) (by rw [← e]; exact nd.1)
      · rw [valP_neg fun h => e (Sum.inr.inj h)]
        rcases List.mem_cons.mp hs with rfl | h
        · exact absurd rfl e
        · first | exact ih nd.2 h | exact ih nd.2 h (List.mem_cons_of_mem _ (List.mem_map_of_mem h))
theorem fMov_in {F : Str → Str → Option (List Str)} {al xs ys : List Str} {d : Str} (fa : FAl F al) (h : fMov F xs d = some ys) : (∀ z ∈ ys, z ∈ al) ∧ ys.length ≤ 9 := by
  unfold fMov at h
  split at h
  · cases h
    have hm : ∀ z ∈ (xs.flatMap fun x => (F x d).getD []), z ∈ al := fun z hz => by
      obtain ⟨x', hx', hz⟩ := List.mem_flatMap.mp hz
      cases hF : F x' d with
      | none => rw [hF] at hz; cases hz
      | some l' => rw [hF] at hz; exact (fa.inn _ _ _ hF).2 z hz
    exact ⟨fun z hz => hm z (mem_sortU.mp hz), Nat.le_trans (sortU_len _ hm) fa.len⟩
  · cases h
section
variable {Q : PV → Store → Prop} {E : PX → Store → Prop} {S0 : Store}
theorem ynext_w {n z d : Str} {sts : List State} {j jr jd jn n0 : Nat} {dn xs : List Str} (k8 : dKind8 [] (n, sts)) (rd : RdOk sts z j jr jd jn n0 dn S0) (hx : xs.length ≤ 9) (q : Q (eM (fMov (fN sts) xs d)) S0) : W (fnV 3 5 bYNext [.ref j, .tup (xs.map .str), .str d] S0) Q E := by
  have big := sizeLine_eq
  have fa := fN_al k8
  obtain ⟨kv, g, hl, h2⟩ := rd.nx.top
  have gj := rd.dc
  have jl := lt_of_get gj
  refine w_fn rfl ?_
  show WS (bYNext [some (.ref j), some (.tup (xs.map .str)), some (.str d), none, none] S0) _
  unfold bYNext
  repeat walk_at "x"
  refine s_loop (fun rest ρ X => Kp S0 X ∧ ∃ (dd ys : List Str) (e4 : Option PV), xs = dd ++ ys ∧ rest = ys.map .str ∧ (dd.all fun x => (fN sts x d).isSome) = true ∧ X[S0.length]? = some (.lst ((dd.flatMap fun x => (fN sts x d).getD []).map .str)) ∧ ρ = [some (.ref j), some (.tup (xs.map .str)), some (.str d), some (.ref S0.length), e4])
    ⟨Kp.app _ _, [], xs, none, rfl, rfl, rfl, get_app _ _ _, rfl⟩ (fun x rest ρ X H => ?_) (fun ρ X H => ?_)
  · obtain ⟨kx, dd, ys, e4, hxs, hr, hall, gf, rfl⟩ := H
    refine ⟨trivial, ?_⟩
    cases ys with
    | nil => cases hr
    | cons y ys =>
      simp only [List.map_cons, List.cons.injEq] at hr
      obtain ⟨rfl, rfl⟩ := hr
      have ddl : dd.length < 9 := by rw [hxs] at hx; simp at hx; omega
      have gn := kx.at g
      have gdn : dicNAt X jn = some kv := by unfold dicNAt; rw [gn]
      repeat walk_at "x"
      refine o_didx (kx.at gj) rfl rd_n ?_
      refine o_nIn (key_p2 (y, d)) gdn ?_
      rcases h2 y d with h3 | ⟨b, l, h3, h4, h5, h6⟩
      · rw [h3.1]
        rw [show (true != (none : Option PV).isSome) = true from rfl]
        repeat walk_at "x"
        have : fMov (fN sts) xs d = none := by
          unfold fMov
          rw [if_neg]
          rw [hxs, List.all_append, List.all_cons, h3.2]
          simp
        rw [this] at q
        exact g_keep kx (by rfl) q
      · rw [h3]
        rw [show (true != (some (PV.ref b)).isSome) = false from rfl]
        have gb := kx.at h5
        have bl := lt_of_get h5
        have ll := (fa.inn _ _ _ h6).1
        have fl : (dd.flatMap fun x => (fN sts x d).getD []).length ≤ 6 * dd.length := by
          clear hall gf hxs ddl
          induction dd with
          | nil => simp
          | cons x dd ih =>
            rw [List.flatMap_cons, List.length_append, List.length_cons]
            have : ((fN sts x d).getD []).length ≤ 6 := by
              cases hF : fN sts x d with
              | none => simp
              | some l' => exact (fa.inn _ _ _ hF).1
            omega
        repeat walk_at "x"
        refine o_didx (kx.at gj) rfl rd_n ?_
        repeat walk_at "x"
        refine o_nidx (key_p2 (y, d)) gdn h3 ?_
        repeat walk_at "x"
        refine ⟨⟨by simp only [List.length_map]; omega, fun e => ?_⟩, ?_⟩
        · have e : some b = some S0.length := e
          have e := Option.some.inj e
          omega
        refine ⟨kx.setL (Nat.le_refl _) _, dd ++ [y], ys, _, by rw [hxs]; simp, rfl, by rw [List.all_append, hall, List.all_cons, h6]; rfl, ?_, rfl⟩
        rw [List.flatMap_append, List.flatMap_cons, List.flatMap_nil, List.append_nil, h6, List.map_append]
        exact get_set gf
  · obtain ⟨kx, dd, ys, e4, hxs, hr, hall, gf, rfl⟩ := H
    refine ⟨trivial, ?_⟩
    have : ys = [] := by cases ys with
      | nil => rfl
      | cons _ _ => cases hr
    subst this
    rw [List.append_nil] at hxs
    subst hxs
    have fl : (xs.flatMap fun x => (fN sts x d).getD []).length ≤ 6 * xs.length := by
      clear hall gf hx q
      induction xs with
      | nil => simp
      | cons x dd ih =>
        rw [List.flatMap_cons, List.length_append, List.length_cons]
        have : ((fN sts x d).getD []).length ≤ 6 := by
          cases hF : fN sts x d with
          | none => simp
          | some l' => exact (fa.inn _ _ _ hF).1
        omega
    repeat walk_at "x"
    refine sortR_ref gf (by omega) fun _ => ?_
    refine Op.of rfl ?_
    have e : fMov (fN sts) xs d = some (sortU (xs.flatMap fun x => (fN sts x d).getD [])) := by
      unfold fMov
      rw [if_pos hall]
    rw [e] at q
    repeat walk_at "x"
    exact g_keep kx (low_dat _ _ (by show PV.dats _ = true; exact dats_strs _)) q
theorem yends_w {n z : Str} {sts : List State} {j jr jd jn n0 : Nat} {dn xs : List Str} (k8 : dKind8 [] (n, sts)) (rd : RdOk sts z j jr jd jn n0 dn S0) (hx : ∀ x ∈ xs, x ∈ ("" : Str) :: sts.map (·.1)) (q : Q (.bl (xs.all (fEnds sts))) S0) : W (fnV 2 3 bYEnds [.ref j, .tup (xs.map .str)] S0) Q E := by
  refine w_fn rfl ?_
  show WS (bYEnds [some (.ref j), some (.tup (xs.map .str)), none] S0) _
  unfold bYEnds
  repeat walk_at "x"
  walk_at "e"
  refine w_pureA (fun x : Str => .bl (fEnds sts x)) trivial (fun x hxm => ?_) ?_
  · repeat walk_at "x"
    refine o_didx rd.dc rfl rd_r ?_
    repeat walk_at "x"
    refine o_didxA rd.rs rfl (rs_at k8 (hx x hxm)) ?_
    exact ⟨rfl, rfl⟩
  rw [show (xs.map fun x : Str => PV.bl (fEnds sts x)) = (xs.map (fEnds sts)).map .bl from by rw [List.map_map]; rfl]
  refine o_all ?_
  repeat walk_at "x"
  rw [List.all_map] at *
  exact q
theorem ylets_w {n : Str} {sts : List State} {j jr jd jn n0 : Nat} {dn row : List Str} (k8 : dKind8 [] (n, sts)) (rd : RdOk sts (fstS (n, sts)) j jr jd jn n0 dn S0) (q : Q (.bl (fLet (fN sts) (fEnds sts) [fstS (n, sts)] row)) S0) : W (fnV 2 4 bYLets [.ref j, .tup (row.map .str)] S0) Q E := by
  have hf1 : fstS (n, sts) ∈ sts.map (·.1) := fst_in (k := (n, sts)) k8.1
  refine w_fn rfl ?_
  show WS (bYLets [some (.ref j), some (.tup (row.map .str)), none, none] S0) _
  unfold bYLets
  repeat walk_at "x"
  refine o_didx rd.dc rfl rd_f ?_
  repeat walk_at "x"
  refine s_loop (fun rest ρ X => X = S0 ∧ ∃ (ys xs : List Str) (e3 : Option PV), rest = ys.map .str ∧ fRun (fN sts) xs ys = fRun (fN sts) [fstS (n, sts)] row ∧ (∀ x ∈ xs, x ∈ ("" : Str) :: sts.map (·.1)) ∧ xs.length ≤ 9 ∧ ρ = [some (.ref j), some (.tup (row.map .str)), some (.tup (xs.map .str)), e3])
    ⟨rfl, row, [fstS (n, sts)], none, rfl, rfl, fun x hx => by rw [List.mem_singleton.mp hx]; exact List.mem_cons_of_mem _ hf1, by simp, rfl⟩ (fun x rest ρ X H => ?_) (fun ρ X H => ?_)
  · obtain ⟨rfl, ys, xs, e3, hr, hf, hin, hl, rfl⟩ := H
    refine ⟨trivial, ?_⟩
    cases ys with
    | nil => cases hr
    | cons y ys =>
      simp only [List.map_cons, List.cons.injEq] at hr
      obtain ⟨rfl, rfl⟩ := hr
      repeat walk_at "x"
      refine ynext_w k8 rd hl ?_
      cases hm : fMov (fN sts) xs y with
      | none =>
        have hf : none = fRun (fN sts) [fstS (n, sts)] row := by rw [← hf]; show none = (match fMov (fN sts) xs y with | none => none | some zs => fRun (fN sts) zs ys); rw [hm]
        repeat walk_at "x"
        unfold fLet at q
        rw [← hf] at q
        exact g_keep (Kp.refl _) (by rfl) q
      | some zs =>
        have hf : fRun (fN sts) zs ys = fRun (fN sts) [fstS (n, sts)] row := by rw [← hf]; show _ = (match fMov (fN sts) xs y with | none => none | some zs => fRun (fN sts) zs ys); rw [hm]
        obtain ⟨h1, h2⟩ := fMov_in (fN_al k8) hm
        repeat walk_at "x"
        exact ⟨rfl, ys, zs, _, rfl, hf, h1, h2, rfl⟩
  · obtain ⟨rfl, ys, xs, e3, hr, hf, hin, hl, rfl⟩ := H
    refine ⟨trivial, ?_⟩
    have : ys = [] := by cases ys with
      | nil => rfl
      | cons _ _ => cases hr
    subst this
    repeat walk_at "x"
    refine yends_w k8 rd hin ?_
    repeat walk_at "x"
    unfold fLet at q
    rw [← hf] at q
    exact q
theorem ysays_w {a b : Bool} (q : Q (.bl (a == b)) S0) : W (fnV 2 2 bYSays [.bl a, .bl b] S0) Q E := by
  refine w_fn rfl ?_
  show WS (bYSays [some (.bl a), some (.bl b)] S0) _
  unfold bYSays
  repeat walk_at "x"
  exact q
end
end
/-! Fw251 -/
section
noncomputable def bYSets : TSt := (sSeq (sSet 2 (vNew (lComp (tgN 6) (iDic fKeys (vBin oDIdx (vVar 1) (vStr "rest"))) (bBl (vBin oNe (vVar 6) (vStr ""))) (vVar 6) [6]))) (sSeq (sSet 3 (vNew (lCat (lComp (tgN 6) (iV (vVar 2)) bYes (vTup (vsCons (vVar 6) vsNil)) [6]) (lDisp (vsCons (vTup (vsCons (vStr "") vsNil)) vsNil))))) (sSeq (sFor (tgN 4) (iRng (vsCons (vC (.int 6)) vsNil)) (sSeq (sSet 5 (vNew (lComp (tgN 7) (iRng (vsCons (vBin oAdd (vC (.int 2)) (vApp (fnV 2 4 bYDraw) (vsCons (vVar 0) (vsCons (vC (.int 5)) vsNil)))) vsNil)) bYes (vBin oIdx (vNew (lCat (lVal (vVar 2)) (lDisp (vsCons (vStr "") vsNil)))) (vApp (fnV 2 4 bYDraw) (vsCons (vVar 0) (vsCons (vBin oAdd (vCall fLen (vsCons (vVar 2) vsNil)) (vC (.int 1))) vsNil)))) [7]))) (sSeq (sExpr (vLm mAppend (vVar 3) (vsCons (vCallL (fun xs => some (.tup xs)) (lSortSet (vVar 5))) vsNil))) sNil))) (sSeq (sRet (vVar 3)) sNil))))
local macro_rules | `(tactic| walk_at "f") => `(tactic| (with_reducible first | refine w_lcallL ?_ | refine w_lcallN ?_ | refine w_orT ?_ | refine w_sortSet ?_ | refine w_iDic ?_))
section
variable {i n m jr : Nat} {kv : List (Key × PV)} {S T U : Store}
theorem FS.setL (a : FS i n jr kv S T) {c : Nat} (hc : S.length ≤ c) (h1 : c ≠ i) (h2 : c ≠ jr) (o : PObj) : FS i n jr kv S (T.set c o) where
  le := by rw [List.length_set]; exact a.le
  get := fun k hk hk1 hk2 => by rw [List.getElem?_set_ne (by omega)]; exact a.get k hk hk1 hk2
  di := by obtain ⟨o', h, y⟩ := a.di; exact ⟨o', by rw [List.getElem?_set_ne h1]; exact h, y⟩
  dj := by rw [List.getElem?_set_ne h2]; exact a.dj
theorem g_FSNew {Q : PV → Store → Prop} {E : PX → Store → Prop} (a : FS i n jr kv S T) (hij : jr ≠ i) (hk : lowK 0 kv = true) (hi : i < S.length) (hj : jr < S.length) {c : Nat} {o : PObj} (hc : S.length ≤ c) (h : T[c]? = some o) (ho : o.low S.length = true)
    (q : ∀ U, FS i n jr kv S U → U.length = S.length + 1 → U[S.length]? = some o → Q (.ref S.length) U) : W (gcV S (.ref c) T) Q E := by
  have lk : ∀ (l : List (Key × PV)) (n : Nat), lowK 0 l = true → lowK n l = true := by
    intro l n
    induction l with
    | nil => exact fun _ => rfl
    | cons p l ih =>
      intro h
      simp only [lowK, Bool.and_eq_true] at h ⊢
      exact ⟨low_mono (Nat.zero_le n) _ h.1, ih h.2⟩
  have F : FrM [(i, yN n), (jr, fun o => o = .dicW kv)] S T := ⟨a.le, fun c hc hp => a.get c hc (fun e => hp (i, yN n) (by simp) e.symm) (fun e => hp (jr, fun o => o = .dicW kv) (by simp) e.symm), fun p hp => by
    rcases List.mem_cons.mp hp with rfl | hp
    · exact a.di
    · rw [List.mem_singleton.mp hp]; exact ⟨_, a.dj, rfl⟩⟩
  refine g_frMNew F (fun p hp o m hq => ?_) (fun p hp => ?_) hc h ho fun U FU uU hU => q U ⟨FU.le, fun c hc h1 h2 => FU.get c hc fun p hp => ?_, FU.own (i, yN n) (by simp), ?_⟩ uU hU
  · rcases List.mem_cons.mp hp with rfl | hp
    · exact yN.low m hq
    · rw [List.mem_singleton.mp hp] at hq
      have hq : o = .dicW kv := hq
      rw [hq]
      exact lk kv m hk
  · rcases List.mem_cons.mp hp with rfl | hp
    · exact hi
    · rw [List.mem_singleton.mp hp]; exact hj
  · rcases List.mem_cons.mp hp with rfl | hp
    · exact Ne.symm h1
    · rw [List.mem_singleton.mp hp]; exact Ne.symm h2
  · obtain ⟨o', h3, h4⟩ := FU.own (jr, fun o => o = .dicW kv) (by simp)
    have h4 : o' = .dicW kv := h4
    rw [h3, h4]
end
section
variable {Q : PV → Store → Prop} {E : PX → Store → Prop} {S0 : Store}
def eT (xs : List Str) : PV := .tup (xs.map .str)
theorem low_eT (n : Nat) (l : List (List Str)) : PV.lows n (l.map eT) = true := by
  refine lows_iff.mpr fun x hx => ?_
  obtain ⟨y, _, rfl⟩ := List.mem_map.mp hx
  exact low_dat _ _ (by show PV.dats _ = true; exact dats_strs _)
theorem ysets_w {i m : Nat} {n z : Str} {sts : List State} {j jr jd jn n0 : Nat} {dn : List Str} (hw : HasN i m S0) (hm : m ≤ 400000000) (hi0 : i < n0) (k8 : dKind8 [] (n, sts)) (rd : RdOk sts z j jr jd jn n0 dn S0) (hrs : S0[jr]? = some (.dic (rsKv sts)))
    (q : ∀ (xss : List (List Str)) (U : Store), FS i (m + 60) jr (rsKv sts) S0 U → U.length = S0.length + 1 → U[S0.length]? = some (.lst (xss.map eT)) → (∀ xs ∈ xss, xs.length ≤ 9) → Q (.ref S0.length) U) : W (fnV 2 8 bYSets [.ref i, .ref j] S0) Q E := by
  have hi := hw.lt
  have big := sizeLine_eq
  obtain ⟨g1, g2, g3, g4⟩ := rd.ge
  have hij : jr ≠ i := by omega
  have hjl := lt_of_get hrs
  have kn : allN (sts.map (·.1)) := k8.2.2.1
  have sl : sts.length ≤ 8 := k8.2.1
  refine w_fn rfl ?_
  show WS (bYSets [some (.ref i), some (.ref j), none, none, none, none, none, none] S0) _
  unfold bYSets
  have hne : ∀ x : Str, x ∈ sts.map (·.1) → (!(x == "")) = true := fun x hx => by
    have := (nm_tx (kn x hx)).2.2.1
    have : ¬ x = "" := fun e => by rw [e] at this; exact absurd this (by decide +kernel)
    simpa using this
  repeat walk_at "x"
  refine o_didx rd.dc rfl rd_r ?_
  refine dwalk_n hrs ?_ ?_
  · rw [List.all_eq_true]
    intro p hp
    unfold rsKv at hp
    rcases List.mem_cons.mp hp with rfl | hp
    · decide +kernel
    · obtain ⟨s, hs, rfl⟩ := List.mem_map.mp hp
      exact decide_eq_true (nm_sok (kn _ (List.mem_map_of_mem hs)))
  have gw : (S0.set jr (.dicW (rsKv sts)))[jr]? = some (.dicW (rsKv sts)) := get_set hrs
  have FS0 : FS i m jr (rsKv sts) S0 (S0.set jr (.dicW (rsKv sts))) := ⟨by rw [List.length_set]; exact Nat.le_refl _, fun c hc h1 h2 => by rw [List.getElem?_set_ne (Ne.symm h2)], by obtain ⟨o, h, y⟩ := hw; exact ⟨o, by rw [List.getElem?_set_ne hij]; exact h, y⟩, gw⟩
  have l0 : (S0.set jr (.dicW (rsKv sts))).length = S0.length := List.length_set
  rw [show (rsKv sts).map fKeys = (("" : Str) :: sts.map (·.1)).map .str from by unfold rsKv; rw [List.map_cons, List.map_cons, List.map_map, List.map_map]; rfl]
  generalize S0.set jr (.dicW (rsKv sts)) = T at *
  walk_at "e"
  refine w_pureF (fun x : Str => .str x) (fun x : Str => !(x == "")) gw (fun x hx => ?_) ?_
  · repeat walk_at "x"
    exact ⟨⟨rfl, rfl⟩, fun _ => by repeat walk_at "x"; exact ⟨rfl, rfl⟩⟩
  rw [show (("" : Str) :: sts.map (·.1)).filter (fun x : Str => !(x == "")) = sts.map (·.1) from by
    rw [List.filter_cons, if_neg (by decide +kernel)]
    exact List.filter_eq_self.mpr hne]
  generalize hst : sts.map (·.1) = st at *
  have stl : st.length ≤ 8 := by rw [← hst, List.length_map]; exact sl
  have g2l := get_app T [] (PObj.lst (st.map PV.str))
  repeat walk_at "x"
  walk_at "e"
  refine w_pureA (fun x : Str => eT [x]) g2l (fun x hx => ?_) ?_
  · repeat walk_at "x"
    exact ⟨rfl, rfl⟩
  repeat walk_at "x"
  rw [show (st.map fun x : Str => eT [x]) ++ [PV.tup [.str ""]] = (st.map (fun x => [x]) ++ [[("" : Str)]]).map eT from by rw [List.map_append, List.map_map]; rfl]
  have F1 : FS i m jr (rsKv sts) S0 ((T ++ [PObj.lst (st.map PV.str)]) ++ [PObj.lst ((st.map (fun x => [x]) ++ [[("" : Str)]]).map eT)]) := FS0.kp ((Kp.app _ _).trans (Kp.app _ _))
  have T1 : (T ++ [PObj.lst (st.map PV.str)]).length = S0.length + 1 := by simp [l0]
  repeat walk_at "x"
  refine rng1 ⟨by omega, by omega⟩ ?_
  refine s_rng (n := 6) (fun k ρ X => FS i (m + 7 * k) jr (rsKv sts) S0 X ∧ ∃ (xss : List (List Str)) (e4 e5 : Option PV), xss.length = st.length + 1 + k ∧ (∀ xs ∈ xss, xs.length ≤ 9) ∧ X[T.length]? = some (.lst (st.map .str)) ∧ X[(T ++ [PObj.lst (st.map PV.str)]).length]? = some (.lst (xss.map eT)) ∧ ρ = [some (.ref i), some (.ref j), some (.ref T.length), some (.ref (T ++ [PObj.lst (st.map PV.str)]).length), e4, e5, none, none])
    ⟨F1, st.map (fun x => [x]) ++ [[("" : Str)]], none, none, by simp, fun xs hx => ?_, get_app_lt g2l, get_app _ _ _, rfl⟩ (fun k hk ρ X H => ?_) (fun ρ X H => ?_)
  · rcases List.mem_append.mp hx with hx | hx
    · obtain ⟨y, _, rfl⟩ := List.mem_map.mp hx; simp
    · rw [List.mem_singleton.mp hx]; simp
  · obtain ⟨FX, xss, e4, e5, xl, x9, gs, gx, rfl⟩ := H
    repeat walk_at "x"
    refine ydraw_w FX.own (by omega) (by omega) fun r Y FY uY r0 r1 => ?_
    obtain ⟨m2, hm2, m21, m26⟩ : ∃ m : Nat, (2 : Int) + r = (m : Int) ∧ 2 ≤ m ∧ m ≤ 6 := ⟨(2 + r).toNat, by omega, by omega, by omega⟩
    have F2 := FX.fr FY hij
    have gsY := FY.of gs (by omega)
    have gxY := FY.of gx (by omega)
    have Yl := lt_of_get gxY
    repeat walk_at "x"
    rw [hm2]
    refine rng1 ⟨by omega, by omega⟩ ?_
    rw [Int.toNat_natCast]
    walk_at "e"
    refine w_turns (fun rest acc Z => ∃ ws : List Str, Fr (yN (m + 7 * k + 1 + ws.length)) i Y Z ∧ acc = ws.map .str ∧ ws.length + rest.length = m2 ∧ ∀ x ∈ ws, x ∈ ("" : Str) :: st) ⟨[], (Kp.refl Y).fr F2.own, rfl, by simp [rangeL], by simp⟩ (fun x rest acc Z H => ?_) (fun acc Z H => ?_)
    · obtain ⟨ws, FZ, rfl, wl, hws⟩ := H
      refine ⟨trivial, ?_⟩
      simp only [List.length_cons] at wl
      have gsZ := FZ.of gsY (by omega)
      repeat walk_at "x"
      refine ydraw_w (i := i) (FZ.kp (Kp.app Z _)).own (by omega) ⟨by omega, by rw [List.length_map]; omega⟩ fun r3 V FV uV r30 r31 => ?_
      rw [List.length_map] at r31
      have Zl := FZ.le
      obtain ⟨y, hy, hym⟩ : ∃ y : Str, atI (st.map PV.str ++ [PV.str ""]) r3 = some (.str y) ∧ y ∈ ("" : Str) :: st := by
        have e : st.map PV.str ++ [PV.str ""] = (st ++ [("" : Str)]).map .str := by rw [List.map_append]; rfl
        rw [e, atI_map]
        obtain ⟨y, h1, h2⟩ := atI_ex (xs := st ++ [("" : Str)]) (k := r3) r30 (by rw [List.length_append]; simp; omega)
        refine ⟨y, by rw [h1]; rfl, ?_⟩
        rcases List.mem_append.mp h2 with h | h
        · exact List.mem_cons_of_mem _ h
        · rw [List.mem_singleton.mp h]; exact List.mem_cons_self ..
      refine o_idxR (FV.of (get_app _ _ _) (by omega)) hy ?_
      refine ⟨ws ++ [y], ?_, by rw [List.map_append]; rfl, by simp; omega, fun x hx => ?_⟩
      · rw [List.length_append, ← Nat.add_assoc]
        exact (FZ.kp (Kp.app Z _)).tr FV
      · rcases List.mem_append.mp hx with hx | hx
        · exact hws x hx
        · rw [List.mem_singleton.mp hx]; exact hym
    · obtain ⟨ws, FZ, rfl, wl, hws⟩ := H
      refine ⟨trivial, ?_⟩
      have wl : ws.length = m2 := by simpa using wl
      have F3 := (F2.fr FZ hij).up (m := m + 7 * (k + 1)) (by omega)
      have gsZ := FZ.of gsY (by omega)
      have gxZ := FZ.of gxY (by omega)
      have gxZ2 := get_app_lt (J := [PObj.lst (ws.map PV.str)]) gxZ
      have xll : (xss.map eT).length < sizeLine := by rw [List.length_map]; omega
      repeat walk_at "x"
      refine sortR_ref (get_app _ _ _) (by omega) fun _ => ?_
      refine Op.of rfl ?_
      repeat walk_at "x"
      refine ⟨(F3.kp (Kp.app _ _)).setL (c := (T ++ [PObj.lst (st.map PV.str)]).length) (by omega) (by omega) (by omega) _, xss ++ [sortU ws], _, _, by simp; omega, fun xs hx => ?_, ?_, ?_, rfl⟩
      · rcases List.mem_append.mp hx with hx | hx
        · exact x9 xs hx
        · rw [List.mem_singleton.mp hx]
          have := sortU_len ws hws
          simp at this
          omega
      · show (List.set _ (T ++ [PObj.lst (st.map PV.str)]).length _)[T.length]? = _
        rw [List.getElem?_set_ne (by omega)]; exact get_app_lt gsZ
      · rw [List.map_append]; exact get_set gxZ2
  · obtain ⟨FX, xss, e4, e5, xl, x9, gs, gx, rfl⟩ := H
    repeat walk_at "x"
    have lk : lowK 0 (rsKv sts) = true := by
      unfold rsKv
      show (true && lowK 0 _) = true
      rw [Bool.true_and]
      clear FX F1 FS0 q rd hrs gw kn hne hst sl k8
      induction sts with
      | nil => rfl
      | cons s sts ih => exact ih
    exact g_FSNew (FX.up (m := m + 60) (by omega)) hij lk hi hjl (by omega) gx (low_eT _ _) fun U FU uU hU => q xss U FU uU hU x9
end
end
/-! Fw252 -/
section
noncomputable def bYSomeRow : TSt := (sSeq (sSet 3 (vNew (lCat (lVal (vBin oDIdx (vVar 1) (vStr "deeds"))) (lDisp (vsCons (vApp (fnV 2 8 bYWord) (vsCons (vVar 0) (vsCons (vBin oDIdx (vVar 1) (vStr "deeds")) vsNil))) vsNil))))) (sSeq (sSet 4 (vBin oSub (vCall fLen (vsCons (vVar 3) vsNil)) (vCall fInt (vsCons (vAnd (vBin oGt (vCall fLen (vsCons (vVar 3) vsNil)) (vC (.int 1))) (vBin oGt (vApp (fnV 2 4 bYDraw) (vsCons (vVar 0) (vsCons (vC (.int 4)) vsNil))) (vC (.int 0)))) vsNil)))) (sSeq (sRet (vCallL (fun xs => some (.tup xs)) (lComp (tgN 5) (iRng (vsCons (vVar 2) vsNil)) bYes (vBin oIdx (vVar 3) (vApp (fnV 2 4 bYDraw) (vsCons (vVar 0) (vsCons (vVar 4) vsNil)))) [5]))) sNil)))
noncomputable def bLaw71 : TSt := (sSeq (sFor (tgN 1) (iL (lCat (lDisp (vsCons (vApp (fnV 2 2 bYCell) (vsCons (vVar 0) (vsCons (vC (.int 0)) vsNil))) vsNil)) (lSlc (vVar 0) (oSome (vC (.int 1))) (oSome (vC (.int 5)))))) (sSeq (sSet 2 (vApp (fnV 1 1 bYDeck) (vsCons (vVar 1) vsNil))) (sSeq (sSet 3 (vApp (fnV 2 9 bYKindHere) (vsCons (vVar 2) (vsCons (vC (.int 1)) vsNil)))) (sSeq (sSet 4 (vApp (fnV 1 8 bYRead) (vsCons (vVar 3) vsNil))) (sSeq (sSet 5 (vNew (lCat (lVal (vBin oDIdx (vVar 4) (vStr "deeds"))) (lDisp (vsCons (vApp (fnV 2 8 bYWord) (vsCons (vVar 2) (vsCons (vBin oDIdx (vVar 4) (vStr "deeds")) vsNil))) vsNil))))) (sSeq (sFor (tgN 6) (iV (vApp (fnV 2 8 bYSets) (vsCons (vVar 2) (vsCons (vVar 4) vsNil)))) (sSeq (sFor (tgN 7) (iV (vVar 5)) (sSeq (sSet 8 (vApp (fnV 3 5 bYNext) (vsCons (vVar 4) (vsCons (vVar 6) (vsCons (vVar 7) vsNil))))) (sSeq (sIf (bOr (bBl (vBin oNe (vApp (fnV 3 3 bStBehind) (vsCons (vVar 3) (vsCons (vVar 6) (vsCons (vVar 7) vsNil)))) (vVar 8))) (bBl (vBin oNe (vApp (fnV 3 3 bStBehind) (vsCons (vVar 3) (vsCons (vVar 6) (vsCons (vVar 7) vsNil)))) (vVar 8)))) (sSeq (sRet (vC (.bl false))) sNil) sNil) sNil))) sNil)) (sSeq (sFor (tgN 9) (iRng (vsCons (vC (.int 6)) vsNil)) (sSeq (sSet 10 (vApp (fnV 3 6 bYSomeRow) (vsCons (vVar 2) (vsCons (vVar 4) (vsCons (vBin oIdx (vNew (lDisp (vsCons (vApp (fnV 2 4 bYDraw) (vsCons (vVar 2) (vsCons (vC (.int 4)) vsNil))) (vsCons (vApp (fnV 2 4 bYDraw) (vsCons (vVar 2) (vsCons (vC (.int 13)) vsNil))) vsNil)))) (vApp (fnV 2 4 bYDraw) (vsCons (vVar 2) (vsCons (vC (.int 2)) vsNil)))) vsNil))))) (sSeq (sIf (bNot (bV (vApp (fnV 2 2 bYSays) (vsCons (vApp (fnV 2 5 bRowLets) (vsCons (vVar 3) (vsCons (vVar 10) vsNil))) (vsCons (vApp (fnV 2 4 bYLets) (vsCons (vVar 4) (vsCons (vVar 10) vsNil))) vsNil))))) (sSeq (sRet (vC (.bl false))) sNil) sNil) sNil))) sNil))))))) (sSeq (sRet (vC (.bl true))) sNil))
local macro_rules | `(tactic| walk_at "f") => `(tactic| (with_reducible first | refine w_lcallL ?_ | refine w_lcallN ?_ | refine w_orT ?_ | refine w_sortSet ?_ | refine w_iDic ?_))
noncomputable def bYSomeRow_2 : TSt := (sSeq (sRet (vCallL (fun xs => some (.tup xs)) (lComp (tgN 5) (iRng (vsCons (vVar 2) vsNil)) bYes (vBin oIdx (vVar 3) (vApp (fnV 2 4 bYDraw) (vsCons (vVar 0) (vsCons (vVar 4) vsNil)))) [5]))) sNil)
theorem bYSomeRow_eq2 : bYSomeRow = (sSeq (sSet 3 (vNew (lCat (lVal (vBin oDIdx (vVar 1) (vStr "deeds"))) (lDisp (vsCons (vApp (fnV 2 8 bYWord) (vsCons (vVar 0) (vsCons (vBin oDIdx (vVar 1) (vStr "deeds")) vsNil))) vsNil))))) (sSeq (sSet 4 (vBin oSub (vCall fLen (vsCons (vVar 3) vsNil)) (vCall fInt (vsCons (vAnd (vBin oGt (vCall fLen (vsCons (vVar 3) vsNil)) (vC (.int 1))) (vBin oGt (vApp (fnV 2 4 bYDraw) (vsCons (vVar 0) (vsCons (vC (.int 4)) vsNil))) (vC (.int 0)))) vsNil)))) bYSomeRow_2)) := rfl
section
variable {Q : PV → Store → Prop} {E : PX → Store → Prop} {S0 : Store}
theorem ysome_row_w {i m many : Nat} {z : Str} {sts : List State} {j jr jd jn n0 : Nat} {dn : List Str} (hw : HasN i m S0) (hm : m ≤ 300000000) (hi0 : i < n0) (rd : RdOk sts z j jr jd jn n0 dn S0) (hmany : many ≤ 12)
    (q : ∀ (row : List Str) (U : Store), Fr (yN (m + 25)) i S0 U → U.length = S0.length → Q (.tup (row.map .str)) U) : W (fnV 3 6 bYSomeRow [.ref i, .ref j, .int (many : Int)] S0) Q E := by
  have hi := hw.lt
  have big := sizeLine_eq
  obtain ⟨g1, g2, g3, g4⟩ := rd.ge
  obtain ⟨d8, dy⟩ := rd.dok
  refine w_fn rfl ?_
  show WS (bYSomeRow [some (.ref i), some (.ref j), some (.int (many : Int)), none, none, none] S0) _
  rw [bYSomeRow_eq2]
  have gd := rd.dl
  repeat walk_at "x"
  refine o_didx rd.dc rfl rd_d ?_
  repeat walk_at "x"
  refine o_didx rd.dc rfl rd_d ?_
  repeat walk_at "x"
  refine yword_w hw (by omega) (by omega) gd (fun y hy => (dy y hy).1) (by omega) fun w T F uT gw bw _ => ?_
  have gdT := F.of gd (by omega)
  repeat walk_at "x"
  have Tl := F.le
  have cat : dn.map PV.str ++ [PV.str w] = (dn ++ [w]).map .str := by rw [List.map_append]; rfl
  have tail : ∀ (f : Int) (V : Store), 1 ≤ f → f ≤ dn.length + 1 → Fr (yN (m + 13)) i S0 V → V[T.length]? = some (.lst ((dn ++ [w]).map .str)) →
      WS (bYSomeRow_2 [some (.ref i), some (.ref j), some (.int (many : Int)), some (.ref T.length), some (.int f), none] V) fun r => W (fin S0 r) Q E := fun f V f1 f2 FV g => by
    unfold bYSomeRow_2
    repeat walk_at "x"
    refine rng1 ⟨by omega, by omega⟩ ?_
    rw [Int.toNat_natCast]
    walk_at "e"
    refine w_turns (fun rest acc Z => ∃ ws : List Str, Fr (yN (m + 13 + ws.length)) i V Z ∧ acc = ws.map .str ∧ ws.length + rest.length = many) ⟨[], (Kp.refl V).fr FV.own, rfl, by simp [rangeL]⟩ (fun x rest acc Z H => ?_) (fun acc Z H => ?_)
    · obtain ⟨ws, FZ, rfl, wl⟩ := H
      refine ⟨trivial, ?_⟩
      simp only [List.length_cons] at wl
      repeat walk_at "x"
      refine ydraw_w FZ.own (by omega) (by omega) fun r3 Y FY uY r30 r31 => ?_
      obtain ⟨y, hy, _⟩ := atI_ex (xs := dn ++ [w]) (k := r3) r30 (by rw [List.length_append]; simp; omega)
      refine o_idxR (FY.of (FZ.of g (by omega)) (by omega)) (y := .str y) (by rw [atI_map, hy]; rfl) ?_
      refine ⟨ws ++ [y], ?_, by rw [List.map_append]; rfl, by simp; omega⟩
      rw [List.length_append, ← Nat.add_assoc]
      exact FZ.tr FY
    · obtain ⟨ws, FZ, rfl, wl⟩ := H
      refine ⟨trivial, ?_⟩
      have wl : ws.length = many := by simpa using wl
      refine Op.of rfl ?_
      repeat walk_at "x"
      exact g_fr ((FV.tr FZ).up (m := m + 25) (by omega)) (lowY _) hi (low_dat _ _ (by show PV.dats _ = true; exact dats_strs _)) fun U FU uU => q ws U FU uU
  have F1 := F.kp (Kp.app T [PObj.lst (dn.map PV.str ++ [PV.str w])])
  have gl : (T ++ [PObj.lst (dn.map PV.str ++ [PV.str w])])[T.length]? = some (.lst ((dn ++ [w]).map .str)) := by rw [get_app, cat]
  have dl : ((((dn.map PV.str ++ [PV.str w]).length : Nat) : Int)) = dn.length + 1 := by simp
  refine Br.both (fun hv => ?_) (fun hv => ?_)
  · repeat walk_at "x"
    refine ydraw_w (i := i) F1.own (by omega) (by omega) fun r V FV uV r0 r1 => ?_
    have F2 := F1.tr FV
    have g2 := FV.of gl (by omega)
    repeat walk_at "x"
    have hv : decide (1 < (((dn.map PV.str ++ [PV.str w]).length : Nat) : Int)) = true := hv
    rw [decide_eq_true_eq, dl] at hv
    refine tail _ V ?_ ?_ F2 g2
    · show 1 ≤ (((dn.map PV.str ++ [PV.str w]).length : Nat) : Int) - (if decide (0 < r) = true then 1 else 0)
      rw [dl]
      split <;> omega
    · show (((dn.map PV.str ++ [PV.str w]).length : Nat) : Int) - (if decide (0 < r) = true then 1 else 0) ≤ _
      rw [dl]
      split <;> omega
  · repeat walk_at "x"
    refine tail _ _ ?_ ?_ (F1.up (by omega)) gl
    · show 1 ≤ (((dn.map PV.str ++ [PV.str w]).length : Nat) : Int) - 0
      rw [dl]; omega
    · show (((dn.map PV.str ++ [PV.str w]).length : Nat) : Int) - 0 ≤ _
      rw [dl]; omega
theorem eM_dd (x : Option (List Str)) : (eM x).dat = true ∧ (eM x).dep ≤ 190 := by
  cases x with
  | none => exact ⟨rfl, by decide⟩
  | some l => exact ⟨by show PV.dats _ = true; exact dats_strs _, by show (PV.tup (l.map .str)).dep ≤ 190; simp only [PV.dep, deps_strs]; omega⟩
theorem law71_w {ns : List Int} (q : ∀ U, Q (.bl true) U) : W (fnV 1 11 bLaw71 [.frl (ns.map .int)] []) Q E := by
  have big := sizeLine_eq
  refine w_fn rfl ?_
  show WS (bLaw71 [some (.frl (ns.map .int)), none, none, none, none, none, none, none, none, none, none] []) _
  unfold bLaw71
  repeat walk_at "x"
  refine ycell_w (k := 0) fun c0 => ?_
  repeat walk_at "x"
  have csl : (cutL ns (some 1) (some 5)).length ≤ 4 := by
    rw [cut_mid _ (by omega) (by omega), List.length_take]
    have : (5 : Int).toNat - (1 : Int).toNat = 4 := rfl
    omega
  have lf : ∀ {QL : LL → Store → Prop}, QL ((cutL ns (some 1) (some 5)).map PV.int, none) [] → LSlcR (PV.frl (ns.map .int)) (some 1) (some 5) [] QL := fun {QL} h => by
    show QL (cutL (ns.map PV.int) (some 1) (some 5), none) []
    rw [cutL_map]; exact h
  refine lf ?_
  refine ⟨trivial, by show 1 + _ ≤ sizeLine; rw [List.length_map]; omega, ?_⟩
  show IL ((c0 :: cutL ns (some 1) (some 5)).map PV.int, none) [] _
  generalize c0 :: cutL ns (some 1) (some 5) = cells
  refine il_none ?_
  refine s_loop (fun rest ρ T => ∃ (cs : List Int) (e1 e2 e3 e4 e5 e6 e7 e8 e9 e10 : Option PV), rest = cs.map .int ∧ ρ = [some (.frl (ns.map .int)), e1, e2, e3, e4, e5, e6, e7, e8, e9, e10]) ⟨cells, none, none, none, none, none, none, none, none, none, none, rfl, rfl⟩ (fun x rest ρ X H => ?_) (fun ρ X H => ?_)
  · obtain ⟨cs, e1, e2, e3, e4, e5, e6, e7, e8, e9, e10, hr, rfl⟩ := H
    refine ⟨trivial, ?_⟩
    cases cs with
    | nil => cases hr
    | cons c cs =>
      simp only [List.map_cons, List.cons.injEq] at hr
      obtain ⟨rfl, rfl⟩ := hr
      repeat walk_at "x"
      refine ydeck_w fun o ho => ?_
      have hw : HasN X.length 0 (X ++ [o]) := ⟨o, get_app _ _ _, ho⟩
      have X1 : (X ++ [o]).length = X.length + 1 := by simp
      repeat walk_at "x"
      refine ykind_here_w hw (by omega) fun k U FU uU k8 kd => ?_
      obtain ⟨kn, ks⟩ := k
      unfold eKd
      repeat walk_at "x"
      refine yread_w k8 kd fun j jr jd jn dn T kT rd hrs => ?_
      have HT : HasN X.length 7000 T := by obtain ⟨o, h, y⟩ := FU.own; exact ⟨o, kT.at h, y.le (by omega)⟩
      obtain ⟨g1, g2, g3, g4⟩ := rd.ge
      obtain ⟨d8, dy⟩ := rd.dok
      have gd := rd.dl
      have iU : X.length < U.length := by omega
      repeat walk_at "x"
      refine o_didx rd.dc rfl rd_d ?_
      repeat walk_at "x"
      refine o_didx rd.dc rfl rd_d ?_
      repeat walk_at "x"
      refine yword_w HT (by omega) (by omega) gd (fun y hy => (dy y hy).1) (by omega) fun w V FV uV gw bw _ => ?_
      have gdV := FV.of gd (by omega)
      have cat : dn.map PV.str ++ [PV.str w] = (dn ++ [w]).map .str := by rw [List.map_append]; rfl
      repeat walk_at "x"
      have rdV := (rd.fr FV iU).kp (Kp.app V [PObj.lst (dn.map PV.str ++ [PV.str w])])
      have hrsV : (V ++ [PObj.lst (dn.map PV.str ++ [PV.str w])])[jr]? = some (.dic (rsKv ks)) := get_app_lt (FV.of hrs (by omega))
      have gV : (V ++ [PObj.lst (dn.map PV.str ++ [PV.str w])])[V.length]? = some (.lst ((dn ++ [w]).map .str)) := by rw [get_app, cat]
      have FV2 := FV.kp (Kp.app V [PObj.lst (dn.map PV.str ++ [PV.str w])])
      refine ysets_w (m := 7012) FV2.own (by omega) iU k8 rdV hrsV fun xss A FA uA gx x9 => ?_
      have rdA := rdV.fs FA iU
      have gA : A[V.length]? = some (.lst ((dn ++ [w]).map .str)) := FA.of gV (by have := FV.le; have := kT.le; omega) (fun e => by rw [e, hrsV] at gV; cases gV)
      repeat walk_at "x"
      have ene : ∀ (x : Option (List Str)) (j : Nat), eM x ≠ .ref j := fun x j h => by cases x <;> cases h
      refine s_loop (fun rest ρ Y => Y = A ∧ ∃ (ys : List (List Str)) (e6 e7 e8 : Option PV), rest = ys.map eT ∧ (∀ xs ∈ ys, xs.length ≤ 9) ∧ ρ = [some (.frl (ns.map .int)), some (.int c), some (.ref X.length), some (eK kn ks), some (.ref j), some (.ref V.length), e6, e7, e8, e9, e10])
        ⟨rfl, xss, e6, e7, e8, rfl, x9, rfl⟩ (fun x rest ρ Y H => ?_) (fun ρ Y H => ?_)
      · obtain ⟨rfl, ys, e6, e7, e8, hr, y9, rfl⟩ := H
        refine ⟨gx, ?_⟩
        cases ys with
        | nil => cases hr
        | cons xs ys =>
          simp only [List.map_cons, List.cons.injEq] at hr
          obtain ⟨rfl, rfl⟩ := hr
          repeat walk_at "x"
          refine s_loop (fun rest ρ Z => Z = Y ∧ ∃ (ds : List Str) (e7 e8 : Option PV), rest = ds.map .str ∧ ρ = [some (.frl (ns.map .int)), some (.int c), some (.ref X.length), some (eK kn ks), some (.ref j), some (.ref V.length), some (eT xs), e7, e8, e9, e10])
            ⟨rfl, dn ++ [w], e7, e8, rfl, rfl⟩ (fun x rest ρ Z H => ?_) (fun ρ Z H => ?_)
          · obtain ⟨rfl, ds, e7, e8, hr, rfl⟩ := H
            refine ⟨gA, ?_⟩
            cases ds with
            | nil => cases hr
            | cons d ds =>
              simp only [List.map_cons, List.cons.injEq] at hr
              obtain ⟨rfl, rfl⟩ := hr
              repeat walk_at "x"
              refine ynext_w (xs := xs) k8 rdA (y9 xs (by simp)) ?_
              repeat walk_at "x"
              refine ystates_behind_w (xs := xs) k8 ?_
              repeat walk_at "x"
              refine o_neD (ene _) (eM_dd _) ?_
              repeat walk_at "x"
              refine ystates_behind_w (xs := xs) k8 ?_
              repeat walk_at "x"
              refine o_neD (ene _) (eM_dd _) ?_
              repeat walk_at "x"
              exact ⟨rfl, ds, _, _, rfl, rfl⟩
          · obtain ⟨rfl, ds, e7, e8, hr, rfl⟩ := H
            refine ⟨gA, ?_⟩
            repeat walk_at "x"
            exact ⟨rfl, ys, _, _, _, rfl, fun xs hx => y9 xs (List.mem_cons_of_mem _ hx), rfl⟩
      · obtain ⟨rfl, ys, e6, e7, e8, hr, y9, rfl⟩ := H
        refine ⟨gx, ?_⟩
        repeat walk_at "x"
        refine rng1 ⟨by omega, by omega⟩ ?_
        refine s_rng (n := 6) (fun k ρ Z => Fr (yN (7072 + 30 * k)) X.length Y Z ∧ ∃ (e9 e10 : Option PV), ρ = [some (.frl (ns.map .int)), some (.int c), some (.ref X.length), some (eK kn ks), some (.ref j), some (.ref V.length), e6, e7, e8, e9, e10])
          ⟨(Kp.refl Y).fr FA.own, _, _, rfl⟩ (fun k hk ρ Z H => ?_) (fun ρ Z H => ?_)
        · obtain ⟨FZ, e9, e10, rfl⟩ := H
          repeat walk_at "x"
          refine ydraw_w FZ.own (by omega) (by omega) fun r1 B FB uB r10 r11 => ?_
          repeat walk_at "x"
          refine ydraw_w FB.own (by omega) (by omega) fun r2 C FC uC r20 r21 => ?_
          repeat walk_at "x"
          have FZC := (FZ.tr FB).tr FC
          refine ydraw_w (i := X.length) (FZC.kp (Kp.app C _)).own (by omega) (by omega) fun r3 D FD uD r30 r31 => ?_
          have F4 := (FZC.kp (Kp.app C _)).tr FD
          have Yl := FZC.le
          have iY : X.length < Y.length := by have := FA.le; have := FV.le; have := kT.le; simp at *; omega
          obtain ⟨many, hm, m12⟩ : ∃ many : Nat, atI [PV.int r1, PV.int r2] r3 = some (.int (many : Int)) ∧ many ≤ 12 := by
            have : r3 = 0 ∨ r3 = 1 := by omega
            rcases this with rfl | rfl
            · exact ⟨r1.toNat, by show some (PV.int r1) = _; rw [Int.toNat_of_nonneg r10], by omega⟩
            · exact ⟨r2.toNat, by show some (PV.int r2) = _; rw [Int.toNat_of_nonneg r20], by omega⟩
          refine o_idxR (FD.of (get_app _ _ _) (by omega)) hm ?_
          have rdD := rdA.fr F4 iU
          repeat walk_at "x"
          refine ysome_row_w F4.own (by omega) iU rdD m12 fun row G FG uG => ?_
          have rdG := rdD.fr FG iU
          repeat walk_at "x"
          refine yrow_lets_w k8 ?_
          repeat walk_at "x"
          refine ylets_w k8 rdG ?_
          repeat walk_at "x"
          refine ysays_w ?_
          rw [beq_self_eq_true]
          repeat walk_at "x"
          exact ⟨(F4.tr FG).up (by omega), _, _, rfl⟩
        · obtain ⟨FZ, e9, e10, rfl⟩ := H
          repeat walk_at "x"
          exact ⟨cs, _, _, _, _, _, _, _, _, _, _, rfl, rfl⟩
  · obtain ⟨cs, e1, e2, e3, e4, e5, e6, e7, e8, e9, e10, hr, rfl⟩ := H
    refine ⟨trivial, ?_⟩
    repeat walk_at "x"
    exact q _
end
end
end Ev
set_option maxHeartbeats 0
namespace My
open PySem PySem.Spec PyProof.Rows L2 Ev
/-! the constants -/
/-! what each def is worth -/
end My
namespace My
open PySem PySem.Spec PyProof.Rows L2 Ev SX
theorem law_eq (n : Nat) : b_law (TT (n + 14)) = bLaw71 := rfl
theorem law_true : ∀ ns : List Int, ns.length ≤ 63 → ∃ S, (fnV 1 11 (b_law (TT 227))) [.frl (ns.map .int)] [] = .ok (.bl true) S := by
  intro ns _
  obtain ⟨v, S, h, rfl⟩ := W.ok (law71_w (ns := ns) (Q := fun v _ => v = .bl true) (E := fun _ _ => False) fun _ => rfl)
  rw [law_eq 213]
  exact ⟨S, h⟩
end My

namespace My
open PySem PySem.Spec PyProof.Rows L2 Ev
/-! the text is worth it -/
theorem sc_first_state : FnScope ["kind"] ["kind"] (defScope s_first_state) := ⟨rfl, rfl, rfl, by decide +kernel, rfl, by decide +kernel, by decide +kernel⟩
theorem sc_state_of : FnScope ["kind", "state", "one"] ["kind", "state"] (defScope s_state_of) := ⟨rfl, rfl, rfl, by decide +kernel, rfl, by decide +kernel, by decide +kernel⟩
theorem sc_may_be_left : FnScope ["kind", "state"] ["kind", "state"] (defScope s_may_be_left) := ⟨rfl, rfl, rfl, by decide +kernel, rfl, by decide +kernel, by decide +kernel⟩
abbrev N_hands_back : List Str := ["kind", "state", "rest", "deeds", "deed", "outs", "out"]
theorem sc_hands_back : FnScope ["kind", "state", "rest", "deeds", "deed", "outs", "out"] ["kind"] (defScope s_hands_back) := ⟨rfl, rfl, rfl, by decide +kernel, rfl, by decide +kernel, by decide +kernel⟩
theorem sc_check_plain : FnScope ["kind"] ["kind"] (defScope s_check_plain) := ⟨rfl, rfl, rfl, by decide +kernel, rfl, by decide +kernel, by decide +kernel⟩
abbrev N_nexts_by : List Str := ["kind", "found", "state", "rest", "deeds", "deed", "outs", "answer", "there", "made"]
theorem sc_nexts_by : FnScope ["kind", "found", "state", "rest", "deeds", "deed", "outs", "answer", "there", "made"] ["kind"] (defScope s_nexts_by) := ⟨rfl, rfl, rfl, by decide +kernel, rfl, by decide +kernel, by decide +kernel⟩
theorem sc_moved_states : FnScope ["nexts", "states", "deed", "row", "found", "state", "there"] ["nexts", "states", "deed"] (defScope s_moved_states) := ⟨rfl, rfl, rfl, by decide +kernel, rfl, by decide +kernel, by decide +kernel⟩
theorem sc_states_behind : FnScope ["kind", "states", "deed"] ["kind", "states", "deed"] (defScope s_states_behind) := ⟨rfl, rfl, rfl, by decide +kernel, rfl, by decide +kernel, by decide +kernel⟩
abbrev N_ends_well : List Str := ["kind", "states", "state"]
theorem sc_ends_well : FnScope ["kind", "states", "state"] ["kind", "states"] (defScope s_ends_well) := ⟨rfl, rfl, rfl, by decide +kernel, rfl, by decide +kernel, by decide +kernel⟩
theorem sc_row_lets : FnScope ["kind", "row", "nexts", "states", "deed"] ["kind", "row"] (defScope s_row_lets) := ⟨rfl, rfl, rfl, by decide +kernel, rfl, by decide +kernel, by decide +kernel⟩
theorem sc__law_cell_at : FnScope ["_law_script", "_law_k"] ["_law_script", "_law_k"] (defScope s__law_cell_at) := ⟨rfl, rfl, rfl, by decide +kernel, rfl, by decide +kernel, by decide +kernel⟩
theorem sc__law_deck : FnScope ["_law_cell"] ["_law_cell"] (defScope s__law_deck) := ⟨rfl, rfl, rfl, by decide +kernel, rfl, by decide +kernel, by decide +kernel⟩
theorem sc__law_draw : FnScope ["_law_deck_here", "_law_most_here", "_law_found", "_law_mixed"] ["_law_deck_here", "_law_most_here"] (defScope s__law_draw) := ⟨rfl, rfl, rfl, by decide +kernel, rfl, by decide +kernel, by decide +kernel⟩
abbrev N__law_word : List Str := ["_law_deck_here", "_law_taken", "_law_letters", "_law_word_here", "_law_way", "_law_spot", "_law_tongue", "_law_k"]
theorem sc__law_word : FnScope ["_law_deck_here", "_law_taken", "_law_letters", "_law_word_here", "_law_way", "_law_spot", "_law_tongue", "_law_k"] ["_law_deck_here", "_law_taken"] (defScope s__law_word) := ⟨rfl, rfl, rfl, by decide +kernel, rfl, by decide +kernel, by decide +kernel⟩
theorem sc__law_words : FnScope ["_law_deck_here", "_law_many", "_law_found", "_law_k"] ["_law_deck_here", "_law_many"] (defScope s__law_words) := ⟨rfl, rfl, rfl, by decide +kernel, rfl, by decide +kernel, by decide +kernel⟩
theorem sc__law_outs : FnScope ["_law_deck_here", "_law_state", "_law_states", "_law_names", "_law_wide", "_law_answers", "_law_stays", "_law_outs_here", "_law_answer", "_law_there", "_law_new"] ["_law_deck_here", "_law_state", "_law_states", "_law_names", "_law_wide"] (defScope s__law_outs) := ⟨rfl, rfl, rfl, by decide +kernel, rfl, by decide +kernel, by decide +kernel⟩
abbrev N__law_kind : List Str := ["_law_deck_here", "_law_name", "_law_names", "_law_wide", "_law_states", "_law_deeds", "_law_found", "_law_state", "_law_some", "_law_deed"]
theorem sc__law_kind : FnScope ["_law_deck_here", "_law_name", "_law_names", "_law_wide", "_law_states", "_law_deeds", "_law_found", "_law_state", "_law_some", "_law_deed"] ["_law_deck_here", "_law_name", "_law_names", "_law_wide"] (defScope s__law_kind) := ⟨rfl, rfl, rfl, by decide +kernel, rfl, by decide +kernel, by decide +kernel⟩
abbrev N__law_book : List Str := ["_law_deck_here", "_law_wide", "_law_names", "_law_name"]
theorem sc__law_book : FnScope ["_law_deck_here", "_law_wide", "_law_names", "_law_name"] ["_law_deck_here", "_law_wide"] (defScope s__law_book) := ⟨rfl, rfl, rfl, by decide +kernel, rfl, by decide +kernel, by decide +kernel⟩
theorem sc__law_kind_here : FnScope ["_law_deck_here", "_law_wide", "_law_way", "_law_states", "_law_deeds", "_law_rest", "_law_found", "_law_k", "_law_there"] ["_law_deck_here", "_law_wide"] (defScope s__law_kind_here) := ⟨rfl, rfl, rfl, by decide +kernel, rfl, by decide +kernel, by decide +kernel⟩
theorem sc__law_most : FnScope ["_law_deck_here"] ["_law_deck_here"] (defScope s__law_most) := ⟨rfl, rfl, rfl, by decide +kernel, rfl, by decide +kernel, by decide +kernel⟩
abbrev N__law_read : List Str := ["_law_kind_here_here", "_law_here", "_law_state", "_law_rest", "_law_deeds", "_law_deed", "_law_outs_here", "_law_out"]
theorem sc__law_read : FnScope ["_law_kind_here_here", "_law_here", "_law_state", "_law_rest", "_law_deeds", "_law_deed", "_law_outs_here", "_law_out"] ["_law_kind_here_here"] (defScope s__law_read) := ⟨rfl, rfl, rfl, by decide +kernel, rfl, by decide +kernel, by decide +kernel⟩
abbrev N__law_some_row : List Str := ["_law_deck_here", "_law_here", "_law_many", "_law_deeds", "_law_few", "_law_k"]
theorem sc__law_some_row : FnScope ["_law_deck_here", "_law_here", "_law_many", "_law_deeds", "_law_few", "_law_k"] ["_law_deck_here", "_law_here", "_law_many"] (defScope s__law_some_row) := ⟨rfl, rfl, rfl, by decide +kernel, rfl, by decide +kernel, by decide +kernel⟩
theorem sc__law_next : FnScope ["_law_here", "_law_states", "_law_deed", "_law_found", "_law_state"] ["_law_here", "_law_states", "_law_deed"] (defScope s__law_next) := ⟨rfl, rfl, rfl, by decide +kernel, rfl, by decide +kernel, by decide +kernel⟩
abbrev N__law_ends : List Str := ["_law_here", "_law_states", "_law_state"]
theorem sc__law_ends : FnScope ["_law_here", "_law_states", "_law_state"] ["_law_here", "_law_states"] (defScope s__law_ends) := ⟨rfl, rfl, rfl, by decide +kernel, rfl, by decide +kernel, by decide +kernel⟩
theorem sc__law_lets : FnScope ["_law_here", "_law_row", "_law_states", "_law_deed"] ["_law_here", "_law_row"] (defScope s__law_lets) := ⟨rfl, rfl, rfl, by decide +kernel, rfl, by decide +kernel, by decide +kernel⟩
theorem sc__law_says : FnScope ["_law_found", "_law_due"] ["_law_found", "_law_due"] (defScope s__law_says) := ⟨rfl, rfl, rfl, by decide +kernel, rfl, by decide +kernel, by decide +kernel⟩
abbrev N__law_sets : List Str := ["_law_deck_here", "_law_here", "_law_states", "_law_some", "_law_k", "_law_drawn", "_law_state", "_law_j"]
theorem sc__law_sets : FnScope ["_law_deck_here", "_law_here", "_law_states", "_law_some", "_law_k", "_law_drawn", "_law_state", "_law_j"] ["_law_deck_here", "_law_here"] (defScope s__law_sets) := ⟨rfl, rfl, rfl, by decide +kernel, rfl, by decide +kernel, by decide +kernel⟩
theorem sc_law : FnScope ["_law_script", "_law_cell", "_law_deck_here", "_law_kind_here_here", "_law_here", "_law_deeds", "_law_states", "_law_deed", "_law_due", "_law_k", "_law_row"] ["_law_script"] (defScope s_law) := ⟨rfl, rfl, rfl, by decide +kernel, rfl, by decide +kernel, by decide +kernel⟩
theorem boot_all' : bootBuiltins "all" = some (.builtin "all") := by decide +kernel
theorem boot_any' : bootBuiltins "any" = some (.builtin "any") := by decide +kernel
theorem boot_bool' : bootBuiltins "bool" = some (.type "bool") := by decide +kernel
theorem boot_int' : bootBuiltins "int" = some (.type "int") := by decide +kernel
theorem boot_isinstance' : bootBuiltins "isinstance" = some (.builtin "isinstance") := by decide +kernel
theorem boot_len' : bootBuiltins "len" = some (.builtin "len") := by decide +kernel
theorem boot_sorted' : bootBuiltins "sorted" = some (.builtin "sorted") := by decide +kernel
theorem boot_tuple' : bootBuiltins "tuple" = some (.type "tuple") := by decide +kernel
structure Glob (K : PySem.W.Frag) (mg : Str → Option Value) : Prop where
  z_all : mg "all" = none
  z_any : mg "any" = none
  z_bool : mg "bool" = none
  z_int : mg "int" = none
  z_isinstance : mg "isinstance" = none
  z_len : mg "len" = none
  z_range : mg "range" = none
  z_set : mg "set" = none
  z_sorted : mg "sorted" = none
  z_tuple : mg "tuple" = none
  xf : XAll K mg ["NoPairing"] []
  xn_NoPairing : ∃ C, XNo K mg "NoPairing" C
section
variable {P : Program} {w : World} {K : PySem.W.Frag} {mg : Str → Option Value} {base : Heap}
def HC (P : Program) (w : World) (K : PySem.W.Frag) (mg : Str → Option Value) (base : Heap) (n : Nat) (c : Calls) : Prop := ∀ j x ps, table[j]? = some (x, ps) → FnAt P w K mg base (n + 2) x ps (c j)
def HH (P : Program) (w : World) (K : PySem.W.Frag) (mg : Str → Option Value) (base : Heap) (n : Nat) (c : Calls) : Prop := ∀ j ∈ ([] : List Nat), ∀ x ps, table[j]? = some (x, ps) → FnAtA P w K mg base (n + 2) x ps (c j)
theorem d_first_state {n : Nat} {c : Calls} (G : Glob K mg) (hc : HC P w K mg base n c) (hh : HH P w K mg base n c) {f : Addr} {fd : FuncData} (F : FunD K "first_state" "first_state" (defArgs s_first_state) (defBody s_first_state) (defScope s_first_state) [] [] f fd) : FnOk P w K mg base (L2.CX P w) (n + 3) f fd ["kind"] (spF K (cmM P w mg) 1 (fnV 1 1 (b_first_state c))) := by
  refine fn_ok F sc_first_state (b_first_state c) fun cdv A outer s H E hr tk po => ?_
  have hu := hu_of' hr
  have hu1 := hu_1 hr
  have nd := sc_first_state.nd
  have XF := G.xf
  exact (ss_seq (ss_ret (sv_idx (sv_idx (sv_idx (sv_var (pv 0)) sv_int (fun _ _ => rfl)) sv_int (fun _ _ => rfl)) sv_int (fun _ _ => rfl)))
    ss_nil)
theorem d_state_of {n : Nat} {c : Calls} (G : Glob K mg) (hc : HC P w K mg base n c) (hh : HH P w K mg base n c) {f : Addr} {fd : FuncData} (F : FunD K "state_of" "state_of" (defArgs s_state_of) (defBody s_state_of) (defScope s_state_of) [] [] f fd) : FnOk P w K mg base (L2.CX P w) (n + 3) f fd ["kind", "state"] (spF K (cmM P w mg) 2 (fnV 2 3 (b_state_of c))) := by
  refine fn_ok F sc_state_of (b_state_of c) fun cdv A outer s H E hr tk po => ?_
  have hu := hu_of' hr
  have hu1 := hu_1 hr
  have nd := sc_state_of.nd
  have XF := G.xf
  exact (ss_seq (ss_for po rfl (si_val (sv_idx (sv_var (pv 0)) sv_int (fun _ _ => rfl))) (sg_name nd (by rfl) (by first | exact .inl rfl | exact .inr rfl)) (ss_seq (ss_if (st_cmp (os_eq hu) (sv_idx (sv_var (pv 2)) sv_int (fun _ _ => rfl)) (sv_var (pv 1)) (nomark _)) (ss_seq (ss_ret (sv_var (pv 2)))
    ss_nil) ss_nil)
    ss_nil))
    (ss_seq (ss_ret (sv_tup (sa_cons (sv_var (pv 1)) (sa_cons sv_bl (sa_cons (sv_tup sa_nil) sa_nil)))))
    ss_nil))
theorem d_may_be_left {n : Nat} {c : Calls} (G : Glob K mg) (hc : HC P w K mg base n c) (hh : HH P w K mg base n c) {f : Addr} {fd : FuncData} (F : FunD K "may_be_left" "may_be_left" (defArgs s_may_be_left) (defBody s_may_be_left) (defScope s_may_be_left) [] [] f fd) : FnOk P w K mg base (L2.CX P w) (n + 3) f fd ["kind", "state"] (spF K (cmM P w mg) 2 (fnV 2 2 (b_may_be_left c))) := by
  refine fn_ok F sc_may_be_left (b_may_be_left c) fun cdv A outer s H E hr tk po => ?_
  have hu := hu_of' hr
  have hu1 := hu_1 hr
  have nd := sc_may_be_left.nd
  have XF := G.xf
  exact (ss_seq (ss_ret (sv_idx (sv_callF (hc 1 "state_of" ["kind", "state"] rfl) hr (pass_take tk) (by rfl) (vlen_cons (vlen_cons vlen_nil)) (sa_cons (sv_var (pv 0)) (sa_cons (sv_var (pv 1)) sa_nil))) sv_int (fun _ _ => rfl)))
    ss_nil)
theorem d_hands_back {n : Nat} {c : Calls} (G : Glob K mg) (hc : HC P w K mg base n c) (hh : HH P w K mg base n c) {f : Addr} {fd : FuncData} (F : FunD K "hands_back" "hands_back" (defArgs s_hands_back) (defBody s_hands_back) (defScope s_hands_back) [] [] f fd) : FnOk P w K mg base (L2.CX P w) (n + 3) f fd ["kind"] (spF K (cmM P w mg) 1 (fnV 1 7 (b_hands_back c))) := by
  refine fn_ok F sc_hands_back (b_hands_back c) fun cdv A outer s H E hr tk po => ?_
  have hu := hu_of' hr
  have hu1 := hu_1 hr
  have nd := sc_hands_back.nd
  have z_any := G.z_any
  have XF := G.xf
  exact (ss_seq (ss_for po rfl (si_val (sv_idx (sv_var (pv 0)) sv_int (fun _ _ => rfl))) (sg_tup rfl (sg_cons (sg_name nd (by rfl) (by first | exact .inl rfl | exact .inr rfl)) (sg_cons (sg_name nd (by rfl) (by first | exact .inl rfl | exact .inr rfl)) (sg_cons (sg_name nd (by rfl) (by first | exact .inl rfl | exact .inr rfl)) sg_nil))) (by rfl) (by rfl) (tgl_cons (tgl_cons (tgl_cons tgl_nil)))) (ss_seq (ss_for po rfl (si_val (sv_var (pv 3))) (sg_tup rfl (sg_cons (sg_name nd (by rfl) (by first | exact .inl rfl | exact .inr rfl)) (sg_cons (sg_name nd (by rfl) (by first | exact .inl rfl | exact .inr rfl)) sg_nil)) (by rfl) (by rfl) (tgl_cons (tgl_cons tgl_nil))) (ss_seq (ss_if (st_truth (sv_callBL (cs_any rfl) (by rfl) z_any boot_any' (sl_comp (own := [("out", 6)]) rfl nd (si_val (sv_var (pv 5))) (blkOk_by (N := N_hands_back) (sc := defScope s_hands_back) (by decide +kernel)) (fun _ _ _ _ _ => (sg_name nd (by rfl) (by first | exact .inl rfl | exact .inr rfl))) (fun _ _ _ _ _ => tts_nil) (fun _ _ _ _ _ => (sv_cmp os_isNot (sv_idx (sv_var (pv 6)) sv_int (fun _ _ => rfl)) sv_non (nomark _))))) (fun _ => rfl)) (ss_seq (ss_ret sv_bl)
    ss_nil) ss_nil)
    ss_nil))
    ss_nil))
    (ss_seq (ss_ret sv_bl)
    ss_nil))
theorem d_check_plain {n : Nat} {c : Calls} (G : Glob K mg) (hc : HC P w K mg base n c) (hh : HH P w K mg base n c) {f : Addr} {fd : FuncData} (F : FunD K "check_plain" "check_plain" (defArgs s_check_plain) (defBody s_check_plain) (defScope s_check_plain) [] [] f fd) : FnOk P w K mg base (L2.CX P w) (n + 3) f fd ["kind"] (spF K (cmM P w mg) 1 (fnV 1 1 (b_check_plain c))) := by
  refine fn_ok F sc_check_plain (b_check_plain c) fun cdv A outer s H E hr tk po => ?_
  have hu := hu_of' hr
  have hu1 := hu_1 hr
  have nd := sc_check_plain.nd
  have xn_NoPairing := G.xn_NoPairing
  have XF := G.xf
  exact (ss_seq (ss_if (st_truth (sv_callF (hc 3 "hands_back" ["kind"] rfl) hr (pass_take tk) (by rfl) (vlen_cons vlen_nil) (sa_cons (sv_var (pv 0)) sa_nil)) (fun _ => rfl)) (ss_seq (ss_raiseN xn_NoPairing rfl tk (by rfl))
    ss_nil) ss_nil)
    ss_nil)
theorem d_nexts_by {n : Nat} {c : Calls} (G : Glob K mg) (hc : HC P w K mg base n c) (hh : HH P w K mg base n c) {f : Addr} {fd : FuncData} (F : FunD K "nexts_by" "nexts_by" (defArgs s_nexts_by) (defBody s_nexts_by) (defScope s_nexts_by) [] [] f fd) : FnOk P w K mg base (L2.CX P w) (n + 3) f fd ["kind"] (spF K (cmM P w mg) 1 (fnV 1 10 (b_nexts_by c))) := by
  refine fn_ok F sc_nexts_by (b_nexts_by c) fun cdv A outer s H E hr tk po => ?_
  have hu := hu_of' hr
  have hu1 := hu_1 hr
  have nd := sc_nexts_by.nd
  have XF := G.xf
  exact (ss_seq (ss_set (i := 1) nd rfl (by first | exact .inl rfl | exact .inr rfl) sv_dic0)
    (ss_seq (ss_for po rfl (si_val (sv_idx (sv_var (pv 0)) sv_int (fun _ _ => rfl))) (sg_tup rfl (sg_cons (sg_name nd (by rfl) (by first | exact .inl rfl | exact .inr rfl)) (sg_cons (sg_name nd (by rfl) (by first | exact .inl rfl | exact .inr rfl)) (sg_cons (sg_name nd (by rfl) (by first | exact .inl rfl | exact .inr rfl)) sg_nil))) (by rfl) (by rfl) (tgl_cons (tgl_cons (tgl_cons tgl_nil)))) (ss_seq (ss_for po rfl (si_val (sv_var (pv 4))) (sg_tup rfl (sg_cons (sg_name nd (by rfl) (by first | exact .inl rfl | exact .inr rfl)) (sg_cons (sg_name nd (by rfl) (by first | exact .inl rfl | exact .inr rfl)) sg_nil)) (by rfl) (by rfl) (tgl_cons (tgl_cons tgl_nil))) (ss_seq (ss_sub hu1 (sv_new (sl_comp (own := [("answer", 7), ("there", 8), ("made", 9)]) rfl nd (si_val (sv_var (pv 6))) (blkOk_by (N := N_nexts_by) (sc := defScope s_nexts_by) (by decide +kernel)) (fun _ _ _ _ _ => (sg_tup rfl (sg_cons (sg_name nd (by rfl) (by first | exact .inl rfl | exact .inr rfl)) (sg_cons (sg_name nd (by rfl) (by first | exact .inl rfl | exact .inr rfl)) (sg_cons (sg_name nd (by rfl) (by first | exact .inl rfl | exact .inr rfl)) sg_nil))) (by rfl) (by rfl) (tgl_cons (tgl_cons (tgl_cons tgl_nil))))) (fun _ _ _ _ _ => tts_nil) (fun _ _ _ _ _ => (sv_orT (sv_var (pv 8)) (sv_one sv_str))))) (sv_dsetd (sv_var (pv 1)) (sv_var (pv 5)) sv_dic0 ⟨by rfl, by rfl, by rfl, by rfl⟩) (sv_var (pv 2)))
    ss_nil))
    ss_nil))
    (ss_seq (ss_ret (sv_var (pv 1)))
    ss_nil)))
theorem d_moved_states {n : Nat} {c : Calls} (G : Glob K mg) (hc : HC P w K mg base n c) (hh : HH P w K mg base n c) {f : Addr} {fd : FuncData} (F : FunD K "moved_states" "moved_states" (defArgs s_moved_states) (defBody s_moved_states) (defScope s_moved_states) [] [] f fd) : FnOk P w K mg base (L2.CX P w) (n + 3) f fd ["nexts", "states", "deed"] (spF K (cmM P w mg) 3 (fnV 3 7 (b_moved_states c))) := by
  refine fn_ok F sc_moved_states (b_moved_states c) fun cdv A outer s H E hr tk po => ?_
  have hu := hu_of' hr
  have hu1 := hu_1 hr
  have nd := sc_moved_states.nd
  have z_sorted := G.z_sorted
  have z_tuple := G.z_tuple
  have XF := G.xf
  exact (ss_seq (ss_set (i := 3) nd rfl (by first | exact .inl rfl | exact .inr rfl) (sv_dget2 hu1 (sv_var (pv 0)) (sv_var (pv 2)) sv_dic0 ⟨by rfl, by rfl, by rfl, by rfl⟩))
    (ss_seq (ss_set (i := 4) nd rfl (by first | exact .inl rfl | exact .inr rfl) sv_dic0)
    (ss_seq (ss_for po rfl (si_val (sv_var (pv 1))) (sg_name nd (by rfl) (by first | exact .inl rfl | exact .inr rfl)) (ss_seq (ss_if (st_cmpV (pc_dnotinV hu1 (sv_var (pv 5)) (sv_var (pv 3))) (by with_unfolding_all rfl)) (ss_seq (ss_ret sv_non)
    ss_nil) ss_nil)
    (ss_seq (ss_for po rfl (si_val (sv_didx hu1 (sv_var (pv 3)) (sv_var (pv 5)) (fun _ _ => rfl))) (sg_name nd (by rfl) (by first | exact .inl rfl | exact .inr rfl)) (ss_seq (ss_sub hu1 sv_bl (sv_var (pv 4)) (sv_var (pv 6)))
    ss_nil))
    ss_nil)))
    (ss_seq (ss_ret (sv_callTL cs_tupL (by rfl) z_tuple boot_tuple' (sl_callBN (cs_sortD rfl) (by rfl) z_sorted boot_sorted' (sa_cons (sv_var (pv 4)) sa_nil))))
    ss_nil))))
theorem d_states_behind {n : Nat} {c : Calls} (G : Glob K mg) (hc : HC P w K mg base n c) (hh : HH P w K mg base n c) {f : Addr} {fd : FuncData} (F : FunD K "states_behind" "states_behind" (defArgs s_states_behind) (defBody s_states_behind) (defScope s_states_behind) [] [] f fd) : FnOk P w K mg base (L2.CX P w) (n + 3) f fd ["kind", "states", "deed"] (spF K (cmM P w mg) 3 (fnV 3 3 (b_states_behind c))) := by
  refine fn_ok F sc_states_behind (b_states_behind c) fun cdv A outer s H E hr tk po => ?_
  have hu := hu_of' hr
  have hu1 := hu_1 hr
  have nd := sc_states_behind.nd
  have XF := G.xf
  exact (ss_seq (ss_expr (sv_callF (hc 4 "check_plain" ["kind"] rfl) hr (pass_take tk) (by rfl) (vlen_cons vlen_nil) (sa_cons (sv_var (pv 0)) sa_nil)))
    (ss_seq (ss_ret (sv_callF (hc 6 "moved_states" ["nexts", "states", "deed"] rfl) hr (pass_take tk) (by rfl) (vlen_cons (vlen_cons (vlen_cons vlen_nil))) (sa_cons (sv_callF (hc 5 "nexts_by" ["kind"] rfl) hr (pass_take tk) (by rfl) (vlen_cons vlen_nil) (sa_cons (sv_var (pv 0)) sa_nil)) (sa_cons (sv_var (pv 1)) (sa_cons (sv_var (pv 2)) sa_nil)))))
    ss_nil))
theorem d_ends_well {n : Nat} {c : Calls} (G : Glob K mg) (hc : HC P w K mg base n c) (hh : HH P w K mg base n c) {f : Addr} {fd : FuncData} (F : FunD K "ends_well" "ends_well" (defArgs s_ends_well) (defBody s_ends_well) (defScope s_ends_well) [] [] f fd) : FnOk P w K mg base (L2.CX P w) (n + 3) f fd ["kind", "states"] (spF K (cmM P w mg) 2 (fnV 2 3 (b_ends_well c))) := by
  refine fn_ok F sc_ends_well (b_ends_well c) fun cdv A outer s H E hr tk po => ?_
  have hu := hu_of' hr
  have hu1 := hu_1 hr
  have nd := sc_ends_well.nd
  have z_all := G.z_all
  have XF := G.xf
  exact (ss_seq (ss_ret (sv_callBL (cs_all rfl) (by rfl) z_all boot_all' (sl_comp (own := [("state", 2)]) rfl nd (si_val (sv_var (pv 1))) (blkOk_by (N := N_ends_well) (sc := defScope s_ends_well) (by decide +kernel)) (fun _ _ _ _ _ => (sg_name nd (by rfl) (by first | exact .inl rfl | exact .inr rfl))) (fun _ _ _ _ _ => tts_nil) (fun _ _ _ _ _ => (sv_or (sv_cmp (os_eq hu) (sv_var (pv 2)) sv_str (nomark _)) (sv_one (sv_callF (hc 2 "may_be_left" ["kind", "state"] rfl) hr pass_none (by rfl) (vlen_cons (vlen_cons vlen_nil)) (sa_cons (sv_var (pv 0)) (sa_cons (sv_var (pv 2)) sa_nil)))))))))
    ss_nil)
theorem d_row_lets {n : Nat} {c : Calls} (G : Glob K mg) (hc : HC P w K mg base n c) (hh : HH P w K mg base n c) {f : Addr} {fd : FuncData} (F : FunD K "row_lets" "row_lets" (defArgs s_row_lets) (defBody s_row_lets) (defScope s_row_lets) [] [] f fd) : FnOk P w K mg base (L2.CX P w) (n + 3) f fd ["kind", "row"] (spF K (cmM P w mg) 2 (fnV 2 5 (b_row_lets c))) := by
  refine fn_ok F sc_row_lets (b_row_lets c) fun cdv A outer s H E hr tk po => ?_
  have hu := hu_of' hr
  have hu1 := hu_1 hr
  have nd := sc_row_lets.nd
  have XF := G.xf
  exact (ss_seq (ss_expr (sv_callF (hc 4 "check_plain" ["kind"] rfl) hr (pass_take tk) (by rfl) (vlen_cons vlen_nil) (sa_cons (sv_var (pv 0)) sa_nil)))
    (ss_seq (ss_set (i := 2) nd rfl (by first | exact .inl rfl | exact .inr rfl) (sv_callF (hc 5 "nexts_by" ["kind"] rfl) hr (pass_take tk) (by rfl) (vlen_cons vlen_nil) (sa_cons (sv_var (pv 0)) sa_nil)))
    (ss_seq (ss_set (i := 3) nd rfl (by first | exact .inl rfl | exact .inr rfl) (sv_tup (sa_cons (sv_callF (hc 0 "first_state" ["kind"] rfl) hr (pass_take tk) (by rfl) (vlen_cons vlen_nil) (sa_cons (sv_var (pv 0)) sa_nil)) sa_nil)))
    (ss_seq (ss_for po rfl (si_val (sv_var (pv 1))) (sg_name nd (by rfl) (by first | exact .inl rfl | exact .inr rfl)) (ss_seq (ss_set (i := 3) nd rfl (by first | exact .inl rfl | exact .inr rfl) (sv_callF (hc 6 "moved_states" ["nexts", "states", "deed"] rfl) hr (pass_take tk) (by rfl) (vlen_cons (vlen_cons (vlen_cons vlen_nil))) (sa_cons (sv_var (pv 2)) (sa_cons (sv_var (pv 3)) (sa_cons (sv_var (pv 4)) sa_nil)))))
    (ss_seq (ss_if (st_cmp os_is (sv_var (pv 3)) sv_non (nomark _)) (ss_seq (ss_ret sv_bl)
    ss_nil) ss_nil)
    ss_nil)))
    (ss_seq (ss_ret (sv_callF (hc 8 "ends_well" ["kind", "states"] rfl) hr (pass_take tk) (by rfl) (vlen_cons (vlen_cons vlen_nil)) (sa_cons (sv_var (pv 0)) (sa_cons (sv_var (pv 3)) sa_nil))))
    ss_nil)))))
theorem d__law_cell_at {n : Nat} {c : Calls} (G : Glob K mg) (hc : HC P w K mg base n c) (hh : HH P w K mg base n c) {f : Addr} {fd : FuncData} (F : FunD K "_law_cell_at" "_law_cell_at" (defArgs s__law_cell_at) (defBody s__law_cell_at) (defScope s__law_cell_at) [] [] f fd) : FnOk P w K mg base (L2.CX P w) (n + 3) f fd ["_law_script", "_law_k"] (spF K (cmM P w mg) 2 (fnV 2 2 (b__law_cell_at c))) := by
  refine fn_ok F sc__law_cell_at (b__law_cell_at c) fun cdv A outer s H E hr tk po => ?_
  have hu := hu_of' hr
  have hu1 := hu_1 hr
  have nd := sc__law_cell_at.nd
  have z_len := G.z_len
  have XF := G.xf
  exact (ss_seq (ss_if (st_cmp os_lt (sv_var (pv 1)) (sv_callB cs_len (by rfl) z_len boot_len' (sa_cons (sv_var (pv 0)) sa_nil)) (nomark _)) (ss_seq (ss_ret (sv_idx (sv_var (pv 0)) (sv_var (pv 1)) (fun _ _ => rfl)))
    ss_nil) ss_nil)
    (ss_seq (ss_ret sv_int)
    ss_nil))
theorem d__law_deck {n : Nat} {c : Calls} (G : Glob K mg) (hc : HC P w K mg base n c) (hh : HH P w K mg base n c) {f : Addr} {fd : FuncData} (F : FunD K "_law_deck" "_law_deck" (defArgs s__law_deck) (defBody s__law_deck) (defScope s__law_deck) [] [] f fd) : FnOk P w K mg base (L2.CX P w) (n + 3) f fd ["_law_cell"] (spF K (cmM P w mg) 1 (fnV 1 1 (b__law_deck c))) := by
  refine fn_ok F sc__law_deck (b__law_deck c) fun cdv A outer s H E hr tk po => ?_
  have hu := hu_of' hr
  have hu1 := hu_1 hr
  have nd := sc__law_deck.nd
  have z_int := G.z_int
  have XF := G.xf
  exact (ss_seq (ss_ret (sv_dicN (sp_cons sv_str (sv_idx (sv_new (sl_disp (sa_cons sv_int (sa_cons (sv_var (pv 0)) sa_nil)))) (sv_callT cs_int (by rfl) z_int boot_int' (sa_cons (sv_cmp os_ge (sv_var (pv 0)) (sv_bin os_pow sv_int sv_int) (nomark _)) sa_nil)) (fun _ _ => rfl)) (sp_cons sv_str sv_int (sp_cons sv_str (sv_bin os_mod (sv_var (pv 0)) sv_int) sp_nil))) (by rfl) (by rfl) (by simp) (by simp)))
    ss_nil)
theorem d__law_draw {n : Nat} {c : Calls} (G : Glob K mg) (hc : HC P w K mg base n c) (hh : HH P w K mg base n c) {f : Addr} {fd : FuncData} (F : FunD K "_law_draw" "_law_draw" (defArgs s__law_draw) (defBody s__law_draw) (defScope s__law_draw) [] [] f fd) : FnOk P w K mg base (L2.CX P w) (n + 3) f fd ["_law_deck_here", "_law_most_here"] (spF K (cmM P w mg) 2 (fnV 2 4 (b__law_draw c))) := by
  refine fn_ok F sc__law_draw (b__law_draw c) fun cdv A outer s H E hr tk po => ?_
  have hu := hu_of' hr
  have hu1 := hu_1 hr
  have nd := sc__law_draw.nd
  have XF := G.xf
  exact (ss_seq (ss_if (st_cmp os_gt (sv_didx hu1 (sv_var (pv 0)) sv_str (fun _ _ => rfl)) sv_int (nomark _)) (ss_seq (ss_set (i := 2) nd rfl (by first | exact .inl rfl | exact .inr rfl) (sv_bin os_mod (sv_didx hu1 (sv_var (pv 0)) sv_str (fun _ _ => rfl)) (sv_var (pv 1))))
    (ss_seq (ss_sub hu1 (sv_bin os_div (sv_didx hu1 (sv_var (pv 0)) sv_str (fun _ _ => rfl)) (sv_var (pv 1))) (sv_var (pv 0)) sv_str)
    (ss_seq (ss_ret (sv_var (pv 2)))
    ss_nil))) ss_nil)
    (ss_seq (ss_sub hu1 (sv_bin os_add (sv_didx hu1 (sv_var (pv 0)) sv_str (fun _ _ => rfl)) sv_int) (sv_var (pv 0)) sv_str)
    (ss_seq (ss_set (i := 3) nd rfl (by first | exact .inl rfl | exact .inr rfl) (sv_bin os_mod (sv_bin os_mul (sv_bin os_add (sv_didx hu1 (sv_var (pv 0)) sv_str (fun _ _ => rfl)) (sv_bin os_mul (sv_bin os_mul sv_int (sv_didx hu1 (sv_var (pv 0)) sv_str (fun _ _ => rfl))) (sv_didx hu1 (sv_var (pv 0)) sv_str (fun _ _ => rfl)))) sv_int) sv_int))
    (ss_seq (ss_ret (sv_bin os_mod (sv_bin os_div (sv_bin os_mod (sv_bin os_mul (sv_var (pv 3)) (sv_bin os_add (sv_var (pv 3)) sv_int)) sv_int) sv_int) (sv_var (pv 1))))
    ss_nil))))
theorem d__law_word {n : Nat} {c : Calls} (G : Glob K mg) (hc : HC P w K mg base n c) (hh : HH P w K mg base n c) {f : Addr} {fd : FuncData} (F : FunD K "_law_word" "_law_word" (defArgs s__law_word) (defBody s__law_word) (defScope s__law_word) [] [] f fd) : FnOk P w K mg base (L2.CX P w) (n + 3) f fd ["_law_deck_here", "_law_taken"] (spF K (cmM P w mg) 2 (fnV 2 8 (b__law_word c))) := by
  refine fn_ok F sc__law_word (b__law_word c) fun cdv A outer s H E hr tk po => ?_
  have hu := hu_of' hr
  have hu1 := hu_1 hr
  have nd := sc__law_word.nd
  have z_len := G.z_len
  have z_range := G.z_range
  have XF := G.xf
  exact (ss_seq (ss_set (i := 2) nd rfl (by first | exact .inl rfl | exact .inr rfl) sv_str)
    (ss_seq (ss_set (i := 3) nd rfl (by first | exact .inl rfl | exact .inr rfl) (sv_smL PySem.F.slot_str_join PySem.F.type_str_join ms_join sv_str (sl_comp (own := [("_law_k", 7)]) rfl nd (si_range1 (by rfl) z_range (sa_cons (sv_bin os_add sv_int (sv_callF (hc 12 "_law_draw" ["_law_deck_here", "_law_most_here"] rfl) hr (pass_take tk) (by rfl) (vlen_cons (vlen_cons vlen_nil)) (sa_cons (sv_var (pv 0)) (sa_cons sv_int sa_nil)))) sa_nil) (fun _ _ _ _ h => vs1_len h)) (blkOk_by (N := N__law_word) (sc := defScope s__law_word) (by decide +kernel)) (fun _ _ _ _ _ => (sg_name nd (by rfl) (by first | exact .inl rfl | exact .inr rfl))) (fun _ _ _ _ _ => tts_nil) (fun _ _ _ _ _ => (sv_idx (sv_var (pv 2)) (sv_callF (hc 12 "_law_draw" ["_law_deck_here", "_law_most_here"] rfl) hr pass_none (by rfl) (vlen_cons (vlen_cons vlen_nil)) (sa_cons (sv_var (pv 0)) (sa_cons sv_int sa_nil))) (fun _ _ => rfl))))))
    (ss_seq (ss_set (i := 4) nd rfl (by first | exact .inl rfl | exact .inr rfl) (sv_callF (hc 12 "_law_draw" ["_law_deck_here", "_law_most_here"] rfl) hr (pass_take tk) (by rfl) (vlen_cons (vlen_cons vlen_nil)) (sa_cons (sv_var (pv 0)) (sa_cons sv_int sa_nil))))
    (ss_seq (ss_if ((st_and (st_neL hu (sl_val (sv_var (pv 1))) (sl_disp sa_nil) (nomark _)) (st_one_and (st_cmp os_gt (sv_var (pv 4)) sv_int (nomark _))))).pt (ss_seq (ss_set (i := 5) nd rfl (by first | exact .inl rfl | exact .inr rfl) (sv_callF (hc 12 "_law_draw" ["_law_deck_here", "_law_most_here"] rfl) hr (pass_take tk) (by rfl) (vlen_cons (vlen_cons vlen_nil)) (sa_cons (sv_var (pv 0)) (sa_cons (sv_callB cs_len (by rfl) z_len boot_len' (sa_cons (sv_idx (sv_var (pv 1)) (sv_un os_neg sv_int) (fun _ _ => rfl)) sa_nil)) sa_nil))))
    (ss_seq (ss_set (i := 3) nd rfl (by first | exact .inl rfl | exact .inr rfl) (sv_bin os_add (sv_bin os_add (sv_slc (sv_idx (sv_var (pv 1)) (sv_un os_neg sv_int) (fun _ _ => rfl)) so_none (so_some (sv_var (pv 5)))) (sv_idx (sv_var (pv 3)) sv_int (fun _ _ => rfl))) (sv_slc (sv_idx (sv_var (pv 1)) (sv_un os_neg sv_int) (fun _ _ => rfl)) (so_some (sv_bin os_add (sv_var (pv 5)) sv_int)) so_none)))
    ss_nil)) ss_nil)
    (ss_seq (ss_if (st_cmp (os_eq hu) (sv_var (pv 4)) sv_int (nomark _)) (ss_seq (ss_set (i := 3) nd rfl (by first | exact .inl rfl | exact .inr rfl) (sv_idx (sv_new (sl_disp (sa_cons sv_str (sa_cons sv_str (sa_cons sv_str (sa_cons sv_str (sa_cons sv_str (sa_cons sv_str (sa_cons sv_str (sa_cons sv_str sa_nil)))))))))) (sv_callF (hc 12 "_law_draw" ["_law_deck_here", "_law_most_here"] rfl) hr (pass_take tk) (by rfl) (vlen_cons (vlen_cons vlen_nil)) (sa_cons (sv_var (pv 0)) (sa_cons sv_int sa_nil))) (fun _ _ => rfl)))
    ss_nil) ss_nil)
    (ss_seq (ss_set (i := 6) nd rfl (by first | exact .inl rfl | exact .inr rfl) sv_str)
    (ss_seq (ss_while po ((st_or (st_cmp (os_in hu) (sv_var (pv 3)) (sv_var (pv 1)) (by with_unfolding_all rfl)) (st_one_or (st_cmp (os_in hu) (sv_var (pv 3)) (sv_new (sl_sm PySem.F.slot_str_split PySem.F.type_str_split ms_split (sv_var (pv 6)) (sa_cons sv_str sa_nil))) (by with_unfolding_all rfl))))).pt (ss_seq (ss_set (i := 3) nd rfl (by first | exact .inl rfl | exact .inr rfl) (sv_bin os_add (sv_idx (sv_var (pv 2)) (sv_bin os_mod (sv_bin os_add (sv_sm PySem.F.slot_str_index PySem.F.type_str_index ms_index (sv_var (pv 2)) (sa_cons (sv_idx (sv_var (pv 3)) sv_int (fun _ _ => rfl)) sa_nil)) sv_int) sv_int) (fun _ _ => rfl)) (sv_slc (sv_var (pv 3)) (so_some sv_int) so_none)))
    ss_nil))
    (ss_seq (ss_ret (sv_var (pv 3)))
    ss_nil))))))))
theorem d__law_words {n : Nat} {c : Calls} (G : Glob K mg) (hc : HC P w K mg base n c) (hh : HH P w K mg base n c) {f : Addr} {fd : FuncData} (F : FunD K "_law_words" "_law_words" (defArgs s__law_words) (defBody s__law_words) (defScope s__law_words) [] [] f fd) : FnOk P w K mg base (L2.CX P w) (n + 3) f fd ["_law_deck_here", "_law_many"] (spF K (cmM P w mg) 2 (fnV 2 4 (b__law_words c))) := by
  refine fn_ok F sc__law_words (b__law_words c) fun cdv A outer s H E hr tk po => ?_
  have hu := hu_of' hr
  have hu1 := hu_1 hr
  have nd := sc__law_words.nd
  have z_range := G.z_range
  have XF := G.xf
  exact (ss_seq (ss_set (i := 2) nd rfl (by first | exact .inl rfl | exact .inr rfl) (sv_new (sl_disp sa_nil)))
    (ss_seq (ss_for po rfl (si_range1 (by rfl) z_range (sa_cons (sv_var (pv 1)) sa_nil) (fun _ _ _ _ h => vs1_len h)) (sg_name nd (by rfl) (by first | exact .inl rfl | exact .inr rfl)) (ss_seq (ss_expr (sv_lm PySem.F.slot_list_append PySem.F.type_list_append ms_append (sv_var (pv 2)) (sa_cons (sv_callF (hc 13 "_law_word" ["_law_deck_here", "_law_taken"] rfl) hr (pass_take tk) (by rfl) (vlen_cons (vlen_cons vlen_nil)) (sa_cons (sv_var (pv 0)) (sa_cons (sv_var (pv 2)) sa_nil))) sa_nil)))
    ss_nil))
    (ss_seq (ss_ret (sv_var (pv 2)))
    ss_nil)))
theorem d__law_outs {n : Nat} {c : Calls} (G : Glob K mg) (hc : HC P w K mg base n c) (hh : HH P w K mg base n c) {f : Addr} {fd : FuncData} (F : FunD K "_law_outs" "_law_outs" (defArgs s__law_outs) (defBody s__law_outs) (defScope s__law_outs) [] [] f fd) : FnOk P w K mg base (L2.CX P w) (n + 3) f fd ["_law_deck_here", "_law_state", "_law_states", "_law_names", "_law_wide"] (spF K (cmM P w mg) 5 (fnV 5 11 (b__law_outs c))) := by
  refine fn_ok F sc__law_outs (b__law_outs c) fun cdv A outer s H E hr tk po => ?_
  have hu := hu_of' hr
  have hu1 := hu_1 hr
  have nd := sc__law_outs.nd
  have z_int := G.z_int
  have z_len := G.z_len
  have z_tuple := G.z_tuple
  have XF := G.xf
  exact (ss_seq (ss_set (i := 5) nd rfl (by first | exact .inl rfl | exact .inr rfl) (sv_callF (hc 14 "_law_words" ["_law_deck_here", "_law_many"] rfl) hr (pass_take tk) (by rfl) (vlen_cons (vlen_cons vlen_nil)) (sa_cons (sv_var (pv 0)) (sa_cons (sv_bin os_add sv_int (sv_callF (hc 12 "_law_draw" ["_law_deck_here", "_law_most_here"] rfl) hr (pass_take tk) (by rfl) (vlen_cons (vlen_cons vlen_nil)) (sa_cons (sv_var (pv 0)) (sa_cons (sv_bin os_add sv_int (sv_bin os_mul sv_int (sv_var (pv 4)))) sa_nil)))) sa_nil))))
    (ss_seq (ss_set (i := 6) nd rfl (by first | exact .inl rfl | exact .inr rfl) (sv_cmp (os_eq hu) (sv_callF (hc 12 "_law_draw" ["_law_deck_here", "_law_most_here"] rfl) hr (pass_take tk) (by rfl) (vlen_cons (vlen_cons vlen_nil)) (sa_cons (sv_var (pv 0)) (sa_cons sv_int sa_nil))) sv_int (nomark _)))
    (ss_seq (ss_set (i := 7) nd rfl (by first | exact .inl rfl | exact .inr rfl) (sv_new (sl_disp sa_nil)))
    (ss_seq (ss_for po rfl (si_val (sv_var (pv 5))) (sg_name nd (by rfl) (by first | exact .inl rfl | exact .inr rfl)) (ss_seq (ss_set (i := 9) nd rfl (by first | exact .inl rfl | exact .inr rfl) (sv_idx (sv_new (sl_cat (sl_val (sv_var (pv 2))) (sl_disp (sa_cons sv_non sa_nil)))) (sv_callF (hc 12 "_law_draw" ["_law_deck_here", "_law_most_here"] rfl) hr (pass_take tk) (by rfl) (vlen_cons (vlen_cons vlen_nil)) (sa_cons (sv_var (pv 0)) (sa_cons (sv_bin os_add (sv_callB cs_len (by rfl) z_len boot_len' (sa_cons (sv_var (pv 2)) sa_nil)) sv_int) sa_nil))) (fun _ _ => rfl)))
    (ss_seq (ss_set (i := 10) nd rfl (by first | exact .inl rfl | exact .inr rfl) sv_non)
    (ss_seq (ss_if ((st_and (st_neL hu (sl_val (sv_var (pv 3))) (sl_disp sa_nil) (nomark _)) (st_one_and (st_cmp (os_eq hu) (sv_callF (hc 12 "_law_draw" ["_law_deck_here", "_law_most_here"] rfl) hr (pass_take tk) (by rfl) (vlen_cons (vlen_cons vlen_nil)) (sa_cons (sv_var (pv 0)) (sa_cons sv_int sa_nil))) sv_int (nomark _))))).pt (ss_seq (ss_set (i := 10) nd rfl (by first | exact .inl rfl | exact .inr rfl) (sv_idx (sv_var (pv 3)) (sv_callF (hc 12 "_law_draw" ["_law_deck_here", "_law_most_here"] rfl) hr (pass_take tk) (by rfl) (vlen_cons (vlen_cons vlen_nil)) (sa_cons (sv_var (pv 0)) (sa_cons (sv_callB cs_len (by rfl) z_len boot_len' (sa_cons (sv_var (pv 3)) sa_nil)) sa_nil))) (fun _ _ => rfl)))
    ss_nil) ss_nil)
    (ss_seq (ss_expr (sv_lm PySem.F.slot_list_append PySem.F.type_list_append ms_append (sv_var (pv 7)) (sa_cons (sv_idx (sv_new (sl_disp (sa_cons (sv_tup (sa_cons (sv_var (pv 8)) (sa_cons (sv_var (pv 9)) (sa_cons (sv_var (pv 10)) sa_nil)))) (sa_cons (sv_tup (sa_cons (sv_var (pv 8)) (sa_cons (sv_var (pv 1)) (sa_cons sv_non sa_nil)))) sa_nil)))) (sv_callT cs_int (by rfl) z_int boot_int' (sa_cons (sv_var (pv 6)) sa_nil)) (fun _ _ => rfl)) sa_nil)))
    ss_nil)))))
    (ss_seq (ss_ret (sv_callT cs_tup (by rfl) z_tuple boot_tuple' (sa_cons (sv_var (pv 7)) sa_nil)))
    ss_nil)))))
theorem d__law_kind {n : Nat} {c : Calls} (G : Glob K mg) (hc : HC P w K mg base n c) (hh : HH P w K mg base n c) {f : Addr} {fd : FuncData} (F : FunD K "_law_kind" "_law_kind" (defArgs s__law_kind) (defBody s__law_kind) (defScope s__law_kind) [] [] f fd) : FnOk P w K mg base (L2.CX P w) (n + 3) f fd ["_law_deck_here", "_law_name", "_law_names", "_law_wide"] (spF K (cmM P w mg) 4 (fnV 4 10 (b__law_kind c))) := by
  refine fn_ok F sc__law_kind (b__law_kind c) fun cdv A outer s H E hr tk po => ?_
  have hu := hu_of' hr
  have hu1 := hu_1 hr
  have nd := sc__law_kind.nd
  have z_tuple := G.z_tuple
  have XF := G.xf
  exact (ss_seq (ss_set (i := 4) nd rfl (by first | exact .inl rfl | exact .inr rfl) (sv_callF (hc 14 "_law_words" ["_law_deck_here", "_law_many"] rfl) hr (pass_take tk) (by rfl) (vlen_cons (vlen_cons vlen_nil)) (sa_cons (sv_var (pv 0)) (sa_cons (sv_bin os_add sv_int (sv_callF (hc 12 "_law_draw" ["_law_deck_here", "_law_most_here"] rfl) hr (pass_take tk) (by rfl) (vlen_cons (vlen_cons vlen_nil)) (sa_cons (sv_var (pv 0)) (sa_cons (sv_bin os_add sv_int (sv_bin os_mul sv_int (sv_var (pv 3)))) sa_nil)))) sa_nil))))
    (ss_seq (ss_set (i := 5) nd rfl (by first | exact .inl rfl | exact .inr rfl) (sv_callF (hc 14 "_law_words" ["_law_deck_here", "_law_many"] rfl) hr (pass_take tk) (by rfl) (vlen_cons (vlen_cons vlen_nil)) (sa_cons (sv_var (pv 0)) (sa_cons (sv_bin os_add sv_int (sv_callF (hc 12 "_law_draw" ["_law_deck_here", "_law_most_here"] rfl) hr (pass_take tk) (by rfl) (vlen_cons (vlen_cons vlen_nil)) (sa_cons (sv_var (pv 0)) (sa_cons (sv_bin os_add sv_int (sv_bin os_mul sv_int (sv_var (pv 3)))) sa_nil)))) sa_nil))))
    (ss_seq (ss_set (i := 6) nd rfl (by first | exact .inl rfl | exact .inr rfl) (sv_new (sl_disp sa_nil)))
    (ss_seq (ss_for po rfl (si_val (sv_var (pv 4))) (sg_name nd (by rfl) (by first | exact .inl rfl | exact .inr rfl)) (ss_seq (ss_setLc (i := 8) (own := [("_law_deed", 9)]) rfl nd rfl rfl (sw_true rfl rfl rfl (by decide +kernel)) (si_val (sv_var (pv 5))) (blkOk_by (N := N__law_kind) (sc := defScope s__law_kind) (by decide +kernel)) (fun _ _ _ _ _ => (sg_name nd (by rfl) (by first | exact .inl rfl | exact .inr rfl))) (fun _ _ _ _ _ => (tts_one (st_cmp os_gt (sv_callF (hc 12 "_law_draw" ["_law_deck_here", "_law_most_here"] rfl) hr pass_none (by rfl) (vlen_cons (vlen_cons vlen_nil)) (sa_cons (sv_var (pv 0)) (sa_cons sv_int sa_nil))) sv_int (nomark _)))) (fun _ _ _ _ _ => (sv_var (pv 9))))
    (ss_seq (ss_setLc (i := 8) (own := [("_law_deed", 9)]) rfl nd rfl rfl (sw_true rfl rfl rfl (by decide +kernel)) (si_val (sv_var (pv 8))) (blkOk_by (N := N__law_kind) (sc := defScope s__law_kind) (by decide +kernel)) (fun _ _ _ _ _ => (sg_name nd (by rfl) (by first | exact .inl rfl | exact .inr rfl))) (fun _ _ _ _ _ => tts_nil) (fun _ _ _ _ _ => (sv_tup (sa_cons (sv_var (pv 9)) (sa_cons (sv_callF (hc 15 "_law_outs" ["_law_deck_here", "_law_state", "_law_states", "_law_names", "_law_wide"] rfl) hr pass_none (by rfl) (vlen_cons (vlen_cons (vlen_cons (vlen_cons (vlen_cons vlen_nil))))) (sa_cons (sv_var (pv 0)) (sa_cons (sv_var (pv 7)) (sa_cons (sv_var (pv 4)) (sa_cons (sv_var (pv 2)) (sa_cons (sv_var (pv 3)) sa_nil)))))) sa_nil)))))
    (ss_seq (ss_expr (sv_lm PySem.F.slot_list_append PySem.F.type_list_append ms_append (sv_var (pv 6)) (sa_cons (sv_tup (sa_cons (sv_var (pv 7)) (sa_cons (sv_cmp (os_eq hu) (sv_callF (hc 12 "_law_draw" ["_law_deck_here", "_law_most_here"] rfl) hr (pass_take tk) (by rfl) (vlen_cons (vlen_cons vlen_nil)) (sa_cons (sv_var (pv 0)) (sa_cons sv_int sa_nil))) sv_int (nomark _)) (sa_cons (sv_callT cs_tup (by rfl) z_tuple boot_tuple' (sa_cons (sv_var (pv 8)) sa_nil)) sa_nil)))) sa_nil)))
    ss_nil))))
    (ss_seq (ss_ret (sv_tup (sa_cons (sv_var (pv 1)) (sa_cons (sv_callT cs_tup (by rfl) z_tuple boot_tuple' (sa_cons (sv_var (pv 6)) sa_nil)) sa_nil))))
    ss_nil)))))
theorem d__law_book {n : Nat} {c : Calls} (G : Glob K mg) (hc : HC P w K mg base n c) (hh : HH P w K mg base n c) {f : Addr} {fd : FuncData} (F : FunD K "_law_book" "_law_book" (defArgs s__law_book) (defBody s__law_book) (defScope s__law_book) [] [] f fd) : FnOk P w K mg base (L2.CX P w) (n + 3) f fd ["_law_deck_here", "_law_wide"] (spF K (cmM P w mg) 2 (fnV 2 4 (b__law_book c))) := by
  refine fn_ok F sc__law_book (b__law_book c) fun cdv A outer s H E hr tk po => ?_
  have hu := hu_of' hr
  have hu1 := hu_1 hr
  have nd := sc__law_book.nd
  have z_tuple := G.z_tuple
  have XF := G.xf
  exact (ss_seq (ss_set (i := 2) nd rfl (by first | exact .inl rfl | exact .inr rfl) (sv_callF (hc 14 "_law_words" ["_law_deck_here", "_law_many"] rfl) hr (pass_take tk) (by rfl) (vlen_cons (vlen_cons vlen_nil)) (sa_cons (sv_var (pv 0)) (sa_cons (sv_bin os_add sv_int (sv_callF (hc 12 "_law_draw" ["_law_deck_here", "_law_most_here"] rfl) hr (pass_take tk) (by rfl) (vlen_cons (vlen_cons vlen_nil)) (sa_cons (sv_var (pv 0)) (sa_cons (sv_bin os_add sv_int (sv_bin os_mul sv_int (sv_var (pv 1)))) sa_nil)))) sa_nil))))
    (ss_seq (ss_ret (sv_callTL cs_tupL (by rfl) z_tuple boot_tuple' (sl_comp (own := [("_law_name", 3)]) rfl nd (si_val (sv_var (pv 2))) (blkOk_by (N := N__law_book) (sc := defScope s__law_book) (by decide +kernel)) (fun _ _ _ _ _ => (sg_name nd (by rfl) (by first | exact .inl rfl | exact .inr rfl))) (fun _ _ _ _ _ => tts_nil) (fun _ _ _ _ _ => (sv_callF (hc 16 "_law_kind" ["_law_deck_here", "_law_name", "_law_names", "_law_wide"] rfl) hr pass_none (by rfl) (vlen_cons (vlen_cons (vlen_cons (vlen_cons vlen_nil)))) (sa_cons (sv_var (pv 0)) (sa_cons (sv_var (pv 3)) (sa_cons (sv_var (pv 2)) (sa_cons (sv_var (pv 1)) sa_nil)))))))))
    ss_nil))
theorem d__law_kind_here {n : Nat} {c : Calls} (G : Glob K mg) (hc : HC P w K mg base n c) (hh : HH P w K mg base n c) {f : Addr} {fd : FuncData} (F : FunD K "_law_kind_here" "_law_kind_here" (defArgs s__law_kind_here) (defBody s__law_kind_here) (defScope s__law_kind_here) [] [] f fd) : FnOk P w K mg base (L2.CX P w) (n + 3) f fd ["_law_deck_here", "_law_wide"] (spF K (cmM P w mg) 2 (fnV 2 9 (b__law_kind_here c))) := by
  refine fn_ok F sc__law_kind_here (b__law_kind_here c) fun cdv A outer s H E hr tk po => ?_
  have hu := hu_of' hr
  have hu1 := hu_1 hr
  have nd := sc__law_kind_here.nd
  have z_int := G.z_int
  have z_len := G.z_len
  have z_range := G.z_range
  have z_tuple := G.z_tuple
  have XF := G.xf
  exact (ss_seq (ss_set (i := 2) nd rfl (by first | exact .inl rfl | exact .inr rfl) (sv_callF (hc 12 "_law_draw" ["_law_deck_here", "_law_most_here"] rfl) hr (pass_take tk) (by rfl) (vlen_cons (vlen_cons vlen_nil)) (sa_cons (sv_var (pv 0)) (sa_cons sv_int sa_nil))))
    (ss_seq (ss_if (st_cmp os_lt (sv_var (pv 2)) sv_int (nomark _)) (ss_seq (ss_ret (sv_callF (hc 16 "_law_kind" ["_law_deck_here", "_law_name", "_law_names", "_law_wide"] rfl) hr (pass_take tk) (by rfl) (vlen_cons (vlen_cons (vlen_cons (vlen_cons vlen_nil)))) (sa_cons (sv_var (pv 0)) (sa_cons (sv_callF (hc 13 "_law_word" ["_law_deck_here", "_law_taken"] rfl) hr (pass_take tk) (by rfl) (vlen_cons (vlen_cons vlen_nil)) (sa_cons (sv_var (pv 0)) (sa_cons (sv_new (sl_disp sa_nil)) sa_nil))) (sa_cons (sv_new (sl_disp sa_nil)) (sa_cons (sv_bin os_mul (sv_var (pv 1)) (sv_callT cs_int (by rfl) z_int boot_int' (sa_cons (sv_cmp (os_eq hu) (sv_var (pv 2)) sv_int (nomark _)) sa_nil))) sa_nil))))))
    ss_nil) ss_nil)
    (ss_seq (ss_set (i := 3) nd rfl (by first | exact .inl rfl | exact .inr rfl) (sv_callF (hc 14 "_law_words" ["_law_deck_here", "_law_many"] rfl) hr (pass_take tk) (by rfl) (vlen_cons (vlen_cons vlen_nil)) (sa_cons (sv_var (pv 0)) (sa_cons (sv_bin os_add sv_int (sv_callF (hc 12 "_law_draw" ["_law_deck_here", "_law_most_here"] rfl) hr (pass_take tk) (by rfl) (vlen_cons (vlen_cons vlen_nil)) (sa_cons (sv_var (pv 0)) (sa_cons sv_int sa_nil)))) sa_nil))))
    (ss_seq (ss_set (i := 4) nd rfl (by first | exact .inl rfl | exact .inr rfl) (sv_callF (hc 14 "_law_words" ["_law_deck_here", "_law_many"] rfl) hr (pass_take tk) (by rfl) (vlen_cons (vlen_cons vlen_nil)) (sa_cons (sv_var (pv 0)) (sa_cons (sv_callB cs_len (by rfl) z_len boot_len' (sa_cons (sv_var (pv 3)) sa_nil)) sa_nil))))
    (ss_seq (ss_set (i := 5) nd rfl (by first | exact .inl rfl | exact .inr rfl) (sv_callF (hc 12 "_law_draw" ["_law_deck_here", "_law_most_here"] rfl) hr (pass_take tk) (by rfl) (vlen_cons (vlen_cons vlen_nil)) (sa_cons (sv_var (pv 0)) (sa_cons (sv_bin os_add (sv_callB cs_len (by rfl) z_len boot_len' (sa_cons (sv_var (pv 3)) sa_nil)) sv_int) sa_nil))))
    (ss_seq (ss_set (i := 6) nd rfl (by first | exact .inl rfl | exact .inr rfl) (sv_new (sl_disp sa_nil)))
    (ss_seq (ss_for po rfl (si_range1 (by rfl) z_range (sa_cons (sv_callB cs_len (by rfl) z_len boot_len' (sa_cons (sv_var (pv 3)) sa_nil)) sa_nil) (fun _ _ _ _ h => vs1_len h)) (sg_name nd (by rfl) (by first | exact .inl rfl | exact .inr rfl)) (ss_seq (ss_set (i := 8) nd rfl (by first | exact .inl rfl | exact .inr rfl) (sv_idx (sv_new (sl_disp (sa_cons (sv_idx (sv_var (pv 3)) (sv_bin os_mod (sv_bin os_add (sv_var (pv 7)) sv_int) (sv_callB cs_len (by rfl) z_len boot_len' (sa_cons (sv_var (pv 3)) sa_nil))) (fun _ _ => rfl)) (sa_cons sv_non sa_nil)))) (sv_callT cs_int (by rfl) z_int boot_int' (sa_cons (sv_and (sv_cmp (os_eq hu) (sv_var (pv 5)) (sv_callB cs_len (by rfl) z_len boot_len' (sa_cons (sv_var (pv 3)) sa_nil)) (nomark _)) (sv_one (sv_cmp (os_eq hu) (sv_bin os_add (sv_var (pv 7)) sv_int) (sv_var (pv 5)) (nomark _)))) sa_nil)) (fun _ _ => rfl)))
    (ss_seq (ss_expr (sv_lm PySem.F.slot_list_append PySem.F.type_list_append ms_append (sv_var (pv 6)) (sa_cons (sv_tup (sa_cons (sv_idx (sv_var (pv 3)) (sv_var (pv 7)) (fun _ _ => rfl)) (sa_cons (sv_cmp (os_eq hu) (sv_var (pv 7)) (sv_var (pv 5)) (nomark _)) (sa_cons (sv_tup (sa_cons (sv_tup (sa_cons (sv_idx (sv_var (pv 4)) (sv_var (pv 7)) (fun _ _ => rfl)) (sa_cons (sv_tup (sa_cons (sv_tup (sa_cons sv_str (sa_cons (sv_var (pv 8)) (sa_cons sv_non sa_nil)))) sa_nil)) sa_nil))) sa_nil)) sa_nil)))) sa_nil)))
    ss_nil)))
    (ss_seq (ss_ret (sv_tup (sa_cons (sv_callF (hc 13 "_law_word" ["_law_deck_here", "_law_taken"] rfl) hr (pass_take tk) (by rfl) (vlen_cons (vlen_cons vlen_nil)) (sa_cons (sv_var (pv 0)) (sa_cons (sv_new (sl_disp sa_nil)) sa_nil))) (sa_cons (sv_callT cs_tup (by rfl) z_tuple boot_tuple' (sa_cons (sv_var (pv 6)) sa_nil)) sa_nil))))
    ss_nil))))))))
theorem d__law_most {n : Nat} {c : Calls} (G : Glob K mg) (hc : HC P w K mg base n c) (hh : HH P w K mg base n c) {f : Addr} {fd : FuncData} (F : FunD K "_law_most" "_law_most" (defArgs s__law_most) (defBody s__law_most) (defScope s__law_most) [] [] f fd) : FnOk P w K mg base (L2.CX P w) (n + 3) f fd ["_law_deck_here"] (spF K (cmM P w mg) 1 (fnV 1 1 (b__law_most c))) := by
  refine fn_ok F sc__law_most (b__law_most c) fun cdv A outer s H E hr tk po => ?_
  have hu := hu_of' hr
  have hu1 := hu_1 hr
  have nd := sc__law_most.nd
  have XF := G.xf
  exact (ss_seq (ss_ret (sv_idx (sv_new (sl_disp (sa_cons (sv_callF (hc 12 "_law_draw" ["_law_deck_here", "_law_most_here"] rfl) hr (pass_take tk) (by rfl) (vlen_cons (vlen_cons vlen_nil)) (sa_cons (sv_var (pv 0)) (sa_cons sv_int sa_nil))) (sa_cons (sv_callF (hc 12 "_law_draw" ["_law_deck_here", "_law_most_here"] rfl) hr (pass_take tk) (by rfl) (vlen_cons (vlen_cons vlen_nil)) (sa_cons (sv_var (pv 0)) (sa_cons sv_int sa_nil))) (sa_cons (sv_callF (hc 12 "_law_draw" ["_law_deck_here", "_law_most_here"] rfl) hr (pass_take tk) (by rfl) (vlen_cons (vlen_cons vlen_nil)) (sa_cons (sv_var (pv 0)) (sa_cons sv_int sa_nil))) sa_nil))))) (sv_idx (sv_new (sl_disp (sa_cons sv_int (sa_cons sv_int (sa_cons sv_int (sa_cons sv_int sa_nil)))))) (sv_callF (hc 12 "_law_draw" ["_law_deck_here", "_law_most_here"] rfl) hr (pass_take tk) (by rfl) (vlen_cons (vlen_cons vlen_nil)) (sa_cons (sv_var (pv 0)) (sa_cons sv_int sa_nil))) (fun _ _ => rfl)) (fun _ _ => rfl)))
    ss_nil)
theorem d__law_read {n : Nat} {c : Calls} (G : Glob K mg) (hc : HC P w K mg base n c) (hh : HH P w K mg base n c) {f : Addr} {fd : FuncData} (F : FunD K "_law_read" "_law_read" (defArgs s__law_read) (defBody s__law_read) (defScope s__law_read) [] [] f fd) : FnOk P w K mg base (L2.CX P w) (n + 3) f fd ["_law_kind_here_here"] (spF K (cmM P w mg) 1 (fnV 1 8 (b__law_read c))) := by
  refine fn_ok F sc__law_read (b__law_read c) fun cdv A outer s H E hr tk po => ?_
  have hu := hu_of' hr
  have hu1 := hu_1 hr
  have nd := sc__law_read.nd
  have XF := G.xf
  exact (ss_seq (ss_set (i := 1) nd rfl (by first | exact .inl rfl | exact .inr rfl) (sv_dicN (sp_cons sv_str (sv_tup (sa_cons (sv_idx (sv_idx (sv_idx (sv_var (pv 0)) sv_int (fun _ _ => rfl)) sv_int (fun _ _ => rfl)) sv_int (fun _ _ => rfl)) sa_nil)) (sp_cons sv_str (sv_dic1 sv_str sv_bl) (sp_cons sv_str (sv_new (sl_disp sa_nil)) (sp_cons sv_str sv_dicN0 sp_nil)))) (by rfl) (by rfl) (by simp) (by simp)))
    (ss_seq (ss_for po rfl (si_val (sv_idx (sv_var (pv 0)) sv_int (fun _ _ => rfl))) (sg_tup rfl (sg_cons (sg_name nd (by rfl) (by first | exact .inl rfl | exact .inr rfl)) (sg_cons (sg_name nd (by rfl) (by first | exact .inl rfl | exact .inr rfl)) (sg_cons (sg_name nd (by rfl) (by first | exact .inl rfl | exact .inr rfl)) sg_nil))) (by rfl) (by rfl) (tgl_cons (tgl_cons (tgl_cons tgl_nil)))) (ss_seq (ss_sub hu1 (sv_var (pv 3)) (sv_didx hu1 (sv_var (pv 1)) sv_str (fun _ _ => rfl)) (sv_var (pv 2)))
    (ss_seq (ss_for po rfl (si_val (sv_var (pv 4))) (sg_tup rfl (sg_cons (sg_name nd (by rfl) (by first | exact .inl rfl | exact .inr rfl)) (sg_cons (sg_name nd (by rfl) (by first | exact .inl rfl | exact .inr rfl)) sg_nil)) (by rfl) (by rfl) (tgl_cons (tgl_cons tgl_nil))) (ss_seq (ss_subN hu (sv_new (sl_comp (own := [("_law_out", 7)]) rfl nd (si_val (sv_var (pv 6))) (blkOk_by (N := N__law_read) (sc := defScope s__law_read) (by decide +kernel)) (fun _ _ _ _ _ => (sg_name nd (by rfl) (by first | exact .inl rfl | exact .inr rfl))) (fun _ _ _ _ _ => tts_nil) (fun _ _ _ _ _ => (sv_orT (sv_idx (sv_var (pv 7)) sv_int (fun _ _ => rfl)) (sv_one sv_str))))) (sv_didx hu1 (sv_var (pv 1)) sv_str (fun _ _ => rfl)) (sv_tup (sa_cons (sv_var (pv 2)) (sa_cons (sv_var (pv 5)) sa_nil))))
    (ss_seq (ss_if (st_cmp (os_notIn hu) (sv_var (pv 5)) (sv_didx hu1 (sv_var (pv 1)) sv_str (fun _ _ => rfl)) (by with_unfolding_all rfl)) (ss_seq (ss_expr (sv_lm PySem.F.slot_list_append PySem.F.type_list_append ms_append (sv_didx hu1 (sv_var (pv 1)) sv_str (fun _ _ => rfl)) (sa_cons (sv_var (pv 5)) sa_nil)))
    ss_nil) ss_nil)
    ss_nil)))
    ss_nil)))
    (ss_seq (ss_ret (sv_var (pv 1)))
    ss_nil)))
theorem d__law_some_row {n : Nat} {c : Calls} (G : Glob K mg) (hc : HC P w K mg base n c) (hh : HH P w K mg base n c) {f : Addr} {fd : FuncData} (F : FunD K "_law_some_row" "_law_some_row" (defArgs s__law_some_row) (defBody s__law_some_row) (defScope s__law_some_row) [] [] f fd) : FnOk P w K mg base (L2.CX P w) (n + 3) f fd ["_law_deck_here", "_law_here", "_law_many"] (spF K (cmM P w mg) 3 (fnV 3 6 (b__law_some_row c))) := by
  refine fn_ok F sc__law_some_row (b__law_some_row c) fun cdv A outer s H E hr tk po => ?_
  have hu := hu_of' hr
  have hu1 := hu_1 hr
  have nd := sc__law_some_row.nd
  have z_int := G.z_int
  have z_len := G.z_len
  have z_range := G.z_range
  have z_tuple := G.z_tuple
  have XF := G.xf
  exact (ss_seq (ss_set (i := 3) nd rfl (by first | exact .inl rfl | exact .inr rfl) (sv_new (sl_cat (sl_val (sv_didx hu1 (sv_var (pv 1)) sv_str (fun _ _ => rfl))) (sl_disp (sa_cons (sv_callF (hc 13 "_law_word" ["_law_deck_here", "_law_taken"] rfl) hr (pass_take tk) (by rfl) (vlen_cons (vlen_cons vlen_nil)) (sa_cons (sv_var (pv 0)) (sa_cons (sv_didx hu1 (sv_var (pv 1)) sv_str (fun _ _ => rfl)) sa_nil))) sa_nil)))))
    (ss_seq (ss_set (i := 4) nd rfl (by first | exact .inl rfl | exact .inr rfl) (sv_bin os_sub (sv_callB cs_len (by rfl) z_len boot_len' (sa_cons (sv_var (pv 3)) sa_nil)) (sv_callT cs_int (by rfl) z_int boot_int' (sa_cons (sv_and (sv_cmp os_gt (sv_callB cs_len (by rfl) z_len boot_len' (sa_cons (sv_var (pv 3)) sa_nil)) sv_int (nomark _)) (sv_one (sv_cmp os_gt (sv_callF (hc 12 "_law_draw" ["_law_deck_here", "_law_most_here"] rfl) hr (pass_take tk) (by rfl) (vlen_cons (vlen_cons vlen_nil)) (sa_cons (sv_var (pv 0)) (sa_cons sv_int sa_nil))) sv_int (nomark _)))) sa_nil))))
    (ss_seq (ss_ret (sv_callTL cs_tupL (by rfl) z_tuple boot_tuple' (sl_comp (own := [("_law_k", 5)]) rfl nd (si_range1 (by rfl) z_range (sa_cons (sv_var (pv 2)) sa_nil) (fun _ _ _ _ h => vs1_len h)) (blkOk_by (N := N__law_some_row) (sc := defScope s__law_some_row) (by decide +kernel)) (fun _ _ _ _ _ => (sg_name nd (by rfl) (by first | exact .inl rfl | exact .inr rfl))) (fun _ _ _ _ _ => tts_nil) (fun _ _ _ _ _ => (sv_idx (sv_var (pv 3)) (sv_callF (hc 12 "_law_draw" ["_law_deck_here", "_law_most_here"] rfl) hr pass_none (by rfl) (vlen_cons (vlen_cons vlen_nil)) (sa_cons (sv_var (pv 0)) (sa_cons (sv_var (pv 4)) sa_nil))) (fun _ _ => rfl))))))
    ss_nil)))
theorem d__law_next {n : Nat} {c : Calls} (G : Glob K mg) (hc : HC P w K mg base n c) (hh : HH P w K mg base n c) {f : Addr} {fd : FuncData} (F : FunD K "_law_next" "_law_next" (defArgs s__law_next) (defBody s__law_next) (defScope s__law_next) [] [] f fd) : FnOk P w K mg base (L2.CX P w) (n + 3) f fd ["_law_here", "_law_states", "_law_deed"] (spF K (cmM P w mg) 3 (fnV 3 5 (b__law_next c))) := by
  refine fn_ok F sc__law_next (b__law_next c) fun cdv A outer s H E hr tk po => ?_
  have hu := hu_of' hr
  have hu1 := hu_1 hr
  have nd := sc__law_next.nd
  have z_set := G.z_set
  have z_sorted := G.z_sorted
  have z_tuple := G.z_tuple
  have XF := G.xf
  exact (ss_seq (ss_set (i := 3) nd rfl (by first | exact .inl rfl | exact .inr rfl) (sv_new (sl_disp sa_nil)))
    (ss_seq (ss_for po rfl (si_val (sv_var (pv 1))) (sg_name nd (by rfl) (by first | exact .inl rfl | exact .inr rfl)) (ss_seq (ss_if (st_cmpV (pc_nnotin hu (sv_tup (sa_cons (sv_var (pv 4)) (sa_cons (sv_var (pv 2)) sa_nil))) (sv_didx hu1 (sv_var (pv 0)) sv_str (fun _ _ => rfl))) (by with_unfolding_all rfl)) (ss_seq (ss_ret sv_non)
    ss_nil) ss_nil)
    (ss_seq (ss_expr (sv_extend (sv_var (pv 3)) (sl_val (sv_nidx hu (sv_didx hu1 (sv_var (pv 0)) sv_str (fun _ _ => rfl)) (sv_tup (sa_cons (sv_var (pv 4)) (sa_cons (sv_var (pv 2)) sa_nil))) (fun _ _ => rfl)))))
    ss_nil)))
    (ss_seq (ss_ret (sv_callTL cs_tupL (by rfl) z_tuple boot_tuple' (sl_sortSet rfl (by rfl) z_sorted (by rfl) z_set (sv_var (pv 3)))))
    ss_nil)))
theorem d__law_ends {n : Nat} {c : Calls} (G : Glob K mg) (hc : HC P w K mg base n c) (hh : HH P w K mg base n c) {f : Addr} {fd : FuncData} (F : FunD K "_law_ends" "_law_ends" (defArgs s__law_ends) (defBody s__law_ends) (defScope s__law_ends) [] [] f fd) : FnOk P w K mg base (L2.CX P w) (n + 3) f fd ["_law_here", "_law_states"] (spF K (cmM P w mg) 2 (fnV 2 3 (b__law_ends c))) := by
  refine fn_ok F sc__law_ends (b__law_ends c) fun cdv A outer s H E hr tk po => ?_
  have hu := hu_of' hr
  have hu1 := hu_1 hr
  have nd := sc__law_ends.nd
  have z_all := G.z_all
  have XF := G.xf
  exact (ss_seq (ss_ret (sv_callBL (cs_all rfl) (by rfl) z_all boot_all' (sl_comp (own := [("_law_state", 2)]) rfl nd (si_val (sv_var (pv 1))) (blkOk_by (N := N__law_ends) (sc := defScope s__law_ends) (by decide +kernel)) (fun _ _ _ _ _ => (sg_name nd (by rfl) (by first | exact .inl rfl | exact .inr rfl))) (fun _ _ _ _ _ => tts_nil) (fun _ _ _ _ _ => (sv_didx hu1 (sv_didx hu1 (sv_var (pv 0)) sv_str (fun _ _ => rfl)) (sv_var (pv 2)) (fun _ _ => rfl))))))
    ss_nil)
theorem d__law_lets {n : Nat} {c : Calls} (G : Glob K mg) (hc : HC P w K mg base n c) (hh : HH P w K mg base n c) {f : Addr} {fd : FuncData} (F : FunD K "_law_lets" "_law_lets" (defArgs s__law_lets) (defBody s__law_lets) (defScope s__law_lets) [] [] f fd) : FnOk P w K mg base (L2.CX P w) (n + 3) f fd ["_law_here", "_law_row"] (spF K (cmM P w mg) 2 (fnV 2 4 (b__law_lets c))) := by
  refine fn_ok F sc__law_lets (b__law_lets c) fun cdv A outer s H E hr tk po => ?_
  have hu := hu_of' hr
  have hu1 := hu_1 hr
  have nd := sc__law_lets.nd
  have XF := G.xf
  exact (ss_seq (ss_set (i := 2) nd rfl (by first | exact .inl rfl | exact .inr rfl) (sv_didx hu1 (sv_var (pv 0)) sv_str (fun _ _ => rfl)))
    (ss_seq (ss_for po rfl (si_val (sv_var (pv 1))) (sg_name nd (by rfl) (by first | exact .inl rfl | exact .inr rfl)) (ss_seq (ss_set (i := 2) nd rfl (by first | exact .inl rfl | exact .inr rfl) (sv_callF (hc 22 "_law_next" ["_law_here", "_law_states", "_law_deed"] rfl) hr (pass_take tk) (by rfl) (vlen_cons (vlen_cons (vlen_cons vlen_nil))) (sa_cons (sv_var (pv 0)) (sa_cons (sv_var (pv 2)) (sa_cons (sv_var (pv 3)) sa_nil)))))
    (ss_seq (ss_if (st_cmp os_is (sv_var (pv 2)) sv_non (nomark _)) (ss_seq (ss_ret sv_bl)
    ss_nil) ss_nil)
    ss_nil)))
    (ss_seq (ss_ret (sv_callF (hc 23 "_law_ends" ["_law_here", "_law_states"] rfl) hr (pass_take tk) (by rfl) (vlen_cons (vlen_cons vlen_nil)) (sa_cons (sv_var (pv 0)) (sa_cons (sv_var (pv 2)) sa_nil))))
    ss_nil)))
theorem d__law_says {n : Nat} {c : Calls} (G : Glob K mg) (hc : HC P w K mg base n c) (hh : HH P w K mg base n c) {f : Addr} {fd : FuncData} (F : FunD K "_law_says" "_law_says" (defArgs s__law_says) (defBody s__law_says) (defScope s__law_says) [] [] f fd) : FnOk P w K mg base (L2.CX P w) (n + 3) f fd ["_law_found", "_law_due"] (spF K (cmM P w mg) 2 (fnV 2 2 (b__law_says c))) := by
  refine fn_ok F sc__law_says (b__law_says c) fun cdv A outer s H E hr tk po => ?_
  have hu := hu_of' hr
  have hu1 := hu_1 hr
  have nd := sc__law_says.nd
  have z_bool := G.z_bool
  have z_isinstance := G.z_isinstance
  have XF := G.xf
  exact (ss_seq (ss_ret (sv_and (sv_isi (sv_var (pv 0)) (by rfl) z_isinstance boot_isinstance' (by rfl) z_bool boot_bool') (sv_one (sv_cmp (os_eq hu) (sv_var (pv 0)) (sv_var (pv 1)) (nomark _)))))
    ss_nil)
theorem d__law_sets {n : Nat} {c : Calls} (G : Glob K mg) (hc : HC P w K mg base n c) (hh : HH P w K mg base n c) {f : Addr} {fd : FuncData} (F : FunD K "_law_sets" "_law_sets" (defArgs s__law_sets) (defBody s__law_sets) (defScope s__law_sets) [] [] f fd) : FnOk P w K mg base (L2.CX P w) (n + 3) f fd ["_law_deck_here", "_law_here"] (spF K (cmM P w mg) 2 (fnV 2 8 (b__law_sets c))) := by
  refine fn_ok F sc__law_sets (b__law_sets c) fun cdv A outer s H E hr tk po => ?_
  have hu := hu_of' hr
  have hu1 := hu_1 hr
  have nd := sc__law_sets.nd
  have z_len := G.z_len
  have z_range := G.z_range
  have z_set := G.z_set
  have z_sorted := G.z_sorted
  have z_tuple := G.z_tuple
  have XF := G.xf
  exact (ss_seq (ss_set (i := 2) nd rfl (by first | exact .inl rfl | exact .inr rfl) (sv_new (sl_comp (own := [("_law_state", 6)]) rfl nd (si_dkeys (sv_didx hu1 (sv_var (pv 1)) sv_str (fun _ _ => rfl))) (blkOk_by (N := N__law_sets) (sc := defScope s__law_sets) (by decide +kernel)) (fun _ _ _ _ _ => (sg_name nd (by rfl) (by first | exact .inl rfl | exact .inr rfl))) (fun _ _ _ _ _ => (tts_one (st_cmp (os_ne hu) (sv_var (pv 6)) sv_str (nomark _)))) (fun _ _ _ _ _ => (sv_var (pv 6))))))
    (ss_seq (ss_set (i := 3) nd rfl (by first | exact .inl rfl | exact .inr rfl) (sv_new (sl_cat (sl_comp (own := [("_law_state", 6)]) rfl nd (si_val (sv_var (pv 2))) (blkOk_by (N := N__law_sets) (sc := defScope s__law_sets) (by decide +kernel)) (fun _ _ _ _ _ => (sg_name nd (by rfl) (by first | exact .inl rfl | exact .inr rfl))) (fun _ _ _ _ _ => tts_nil) (fun _ _ _ _ _ => (sv_tup (sa_cons (sv_var (pv 6)) sa_nil)))) (sl_disp (sa_cons (sv_tup (sa_cons sv_str sa_nil)) sa_nil)))))
    (ss_seq (ss_for po rfl (si_range1 (by rfl) z_range (sa_cons sv_int sa_nil) (fun _ _ _ _ h => vs1_len h)) (sg_name nd (by rfl) (by first | exact .inl rfl | exact .inr rfl)) (ss_seq (ss_setLc (i := 5) (own := [("_law_j", 7)]) rfl nd rfl rfl (sw_true rfl rfl rfl (by decide +kernel)) (si_range1 (by rfl) z_range (sa_cons (sv_bin os_add sv_int (sv_callF (hc 12 "_law_draw" ["_law_deck_here", "_law_most_here"] rfl) hr (pass_take tk) (by rfl) (vlen_cons (vlen_cons vlen_nil)) (sa_cons (sv_var (pv 0)) (sa_cons sv_int sa_nil)))) sa_nil) (fun _ _ _ _ h => vs1_len h)) (blkOk_by (N := N__law_sets) (sc := defScope s__law_sets) (by decide +kernel)) (fun _ _ _ _ _ => (sg_name nd (by rfl) (by first | exact .inl rfl | exact .inr rfl))) (fun _ _ _ _ _ => tts_nil) (fun _ _ _ _ _ => (sv_idx (sv_new (sl_cat (sl_val (sv_var (pv 2))) (sl_disp (sa_cons sv_str sa_nil)))) (sv_callF (hc 12 "_law_draw" ["_law_deck_here", "_law_most_here"] rfl) hr pass_none (by rfl) (vlen_cons (vlen_cons vlen_nil)) (sa_cons (sv_var (pv 0)) (sa_cons (sv_bin os_add (sv_callB cs_len (by rfl) z_len boot_len' (sa_cons (sv_var (pv 2)) sa_nil)) sv_int) sa_nil))) (fun _ _ => rfl))))
    (ss_seq (ss_expr (sv_lm PySem.F.slot_list_append PySem.F.type_list_append ms_append (sv_var (pv 3)) (sa_cons (sv_callTL cs_tupL (by rfl) z_tuple boot_tuple' (sl_sortSet rfl (by rfl) z_sorted (by rfl) z_set (sv_var (pv 5)))) sa_nil)))
    ss_nil)))
    (ss_seq (ss_ret (sv_var (pv 3)))
    ss_nil))))
theorem d_law {n : Nat} {c : Calls} (G : Glob K mg) (hc : HC P w K mg base n c) (hh : HH P w K mg base n c) {f : Addr} {fd : FuncData} (F : FunD K "law" "law" (defArgs s_law) (defBody s_law) (defScope s_law) [] [] f fd) : FnOk P w K mg base (L2.CX P w) (n + 3) f fd ["_law_script"] (spF K (cmM P w mg) 1 (fnV 1 11 (b_law c))) := by
  refine fn_ok F sc_law (b_law c) fun cdv A outer s H E hr tk po => ?_
  have hu := hu_of' hr
  have hu1 := hu_1 hr
  have nd := sc_law.nd
  have z_range := G.z_range
  have XF := G.xf
  exact (ss_seq (ss_for po rfl (si_list (sl_cat (sl_disp (sa_cons (sv_callF (hc 10 "_law_cell_at" ["_law_script", "_law_k"] rfl) hr (pass_take tk) (by rfl) (vlen_cons (vlen_cons vlen_nil)) (sa_cons (sv_var (pv 0)) (sa_cons sv_int sa_nil))) sa_nil)) (sl_slc (sv_var (pv 0)) (so_some sv_int) (so_some sv_int)))) (sg_name nd (by rfl) (by first | exact .inl rfl | exact .inr rfl)) (ss_seq (ss_set (i := 2) nd rfl (by first | exact .inl rfl | exact .inr rfl) (sv_callF (hc 11 "_law_deck" ["_law_cell"] rfl) hr (pass_take tk) (by rfl) (vlen_cons vlen_nil) (sa_cons (sv_var (pv 1)) sa_nil)))
    (ss_seq (ss_set (i := 3) nd rfl (by first | exact .inl rfl | exact .inr rfl) (sv_callF (hc 18 "_law_kind_here" ["_law_deck_here", "_law_wide"] rfl) hr (pass_take tk) (by rfl) (vlen_cons (vlen_cons vlen_nil)) (sa_cons (sv_var (pv 2)) (sa_cons sv_int sa_nil))))
    (ss_seq (ss_set (i := 4) nd rfl (by first | exact .inl rfl | exact .inr rfl) (sv_callF (hc 20 "_law_read" ["_law_kind_here_here"] rfl) hr (pass_take tk) (by rfl) (vlen_cons vlen_nil) (sa_cons (sv_var (pv 3)) sa_nil)))
    (ss_seq (ss_set (i := 5) nd rfl (by first | exact .inl rfl | exact .inr rfl) (sv_new (sl_cat (sl_val (sv_didx hu1 (sv_var (pv 4)) sv_str (fun _ _ => rfl))) (sl_disp (sa_cons (sv_callF (hc 13 "_law_word" ["_law_deck_here", "_law_taken"] rfl) hr (pass_take tk) (by rfl) (vlen_cons (vlen_cons vlen_nil)) (sa_cons (sv_var (pv 2)) (sa_cons (sv_didx hu1 (sv_var (pv 4)) sv_str (fun _ _ => rfl)) sa_nil))) sa_nil)))))
    (ss_seq (ss_for po rfl (si_val (sv_callF (hc 26 "_law_sets" ["_law_deck_here", "_law_here"] rfl) hr (pass_take tk) (by rfl) (vlen_cons (vlen_cons vlen_nil)) (sa_cons (sv_var (pv 2)) (sa_cons (sv_var (pv 4)) sa_nil)))) (sg_name nd (by rfl) (by first | exact .inl rfl | exact .inr rfl)) (ss_seq (ss_for po rfl (si_val (sv_var (pv 5))) (sg_name nd (by rfl) (by first | exact .inl rfl | exact .inr rfl)) (ss_seq (ss_set (i := 8) nd rfl (by first | exact .inl rfl | exact .inr rfl) (sv_callF (hc 22 "_law_next" ["_law_here", "_law_states", "_law_deed"] rfl) hr (pass_take tk) (by rfl) (vlen_cons (vlen_cons (vlen_cons vlen_nil))) (sa_cons (sv_var (pv 4)) (sa_cons (sv_var (pv 6)) (sa_cons (sv_var (pv 7)) sa_nil)))))
    (ss_seq (ss_if ((st_or (st_cmp (os_ne hu) (sv_callF (hc 7 "states_behind" ["kind", "states", "deed"] rfl) hr (pass_take tk) (by rfl) (vlen_cons (vlen_cons (vlen_cons vlen_nil))) (sa_cons (sv_var (pv 3)) (sa_cons (sv_var (pv 6)) (sa_cons (sv_var (pv 7)) sa_nil)))) (sv_var (pv 8)) (nomark _)) (st_one_or (st_cmp (os_ne hu) (sv_callF (hc 7 "states_behind" ["kind", "states", "deed"] rfl) hr (pass_take tk) (by rfl) (vlen_cons (vlen_cons (vlen_cons vlen_nil))) (sa_cons (sv_var (pv 3)) (sa_cons (sv_var (pv 6)) (sa_cons (sv_var (pv 7)) sa_nil)))) (sv_var (pv 8)) (nomark _))))).pt (ss_seq (ss_ret sv_bl)
    ss_nil) ss_nil)
    ss_nil)))
    ss_nil))
    (ss_seq (ss_for po rfl (si_range1 (by rfl) z_range (sa_cons sv_int sa_nil) (fun _ _ _ _ h => vs1_len h)) (sg_name nd (by rfl) (by first | exact .inl rfl | exact .inr rfl)) (ss_seq (ss_set (i := 10) nd rfl (by first | exact .inl rfl | exact .inr rfl) (sv_callF (hc 21 "_law_some_row" ["_law_deck_here", "_law_here", "_law_many"] rfl) hr (pass_take tk) (by rfl) (vlen_cons (vlen_cons (vlen_cons vlen_nil))) (sa_cons (sv_var (pv 2)) (sa_cons (sv_var (pv 4)) (sa_cons (sv_idx (sv_new (sl_disp (sa_cons (sv_callF (hc 12 "_law_draw" ["_law_deck_here", "_law_most_here"] rfl) hr (pass_take tk) (by rfl) (vlen_cons (vlen_cons vlen_nil)) (sa_cons (sv_var (pv 2)) (sa_cons sv_int sa_nil))) (sa_cons (sv_callF (hc 12 "_law_draw" ["_law_deck_here", "_law_most_here"] rfl) hr (pass_take tk) (by rfl) (vlen_cons (vlen_cons vlen_nil)) (sa_cons (sv_var (pv 2)) (sa_cons sv_int sa_nil))) sa_nil)))) (sv_callF (hc 12 "_law_draw" ["_law_deck_here", "_law_most_here"] rfl) hr (pass_take tk) (by rfl) (vlen_cons (vlen_cons vlen_nil)) (sa_cons (sv_var (pv 2)) (sa_cons sv_int sa_nil))) (fun _ _ => rfl)) sa_nil)))))
    (ss_seq (ss_if (st_not (st_truth (sv_callF (hc 25 "_law_says" ["_law_found", "_law_due"] rfl) hr (pass_take tk) (by rfl) (vlen_cons (vlen_cons vlen_nil)) (sa_cons (sv_callF (hc 9 "row_lets" ["kind", "row"] rfl) hr (pass_take tk) (by rfl) (vlen_cons (vlen_cons vlen_nil)) (sa_cons (sv_var (pv 3)) (sa_cons (sv_var (pv 10)) sa_nil))) (sa_cons (sv_callF (hc 24 "_law_lets" ["_law_here", "_law_row"] rfl) hr (pass_take tk) (by rfl) (vlen_cons (vlen_cons vlen_nil)) (sa_cons (sv_var (pv 4)) (sa_cons (sv_var (pv 10)) sa_nil))) sa_nil))) (fun _ => rfl))) (ss_seq (ss_ret sv_bl)
    ss_nil) ss_nil)
    ss_nil)))
    ss_nil)))))))
    (ss_seq (ss_ret sv_bl)
    ss_nil))
structure Facts (K : PySem.W.Frag) (mg : Str → Option Value) : Prop where
  f_first_state : ∃ f fd, FunD K "first_state" "first_state" (defArgs s_first_state) (defBody s_first_state) (defScope s_first_state) [] [] f fd ∧ mg "first_state" = some (.ref f)
  f_state_of : ∃ f fd, FunD K "state_of" "state_of" (defArgs s_state_of) (defBody s_state_of) (defScope s_state_of) [] [] f fd ∧ mg "state_of" = some (.ref f)
  f_may_be_left : ∃ f fd, FunD K "may_be_left" "may_be_left" (defArgs s_may_be_left) (defBody s_may_be_left) (defScope s_may_be_left) [] [] f fd ∧ mg "may_be_left" = some (.ref f)
  f_hands_back : ∃ f fd, FunD K "hands_back" "hands_back" (defArgs s_hands_back) (defBody s_hands_back) (defScope s_hands_back) [] [] f fd ∧ mg "hands_back" = some (.ref f)
  f_check_plain : ∃ f fd, FunD K "check_plain" "check_plain" (defArgs s_check_plain) (defBody s_check_plain) (defScope s_check_plain) [] [] f fd ∧ mg "check_plain" = some (.ref f)
  f_nexts_by : ∃ f fd, FunD K "nexts_by" "nexts_by" (defArgs s_nexts_by) (defBody s_nexts_by) (defScope s_nexts_by) [] [] f fd ∧ mg "nexts_by" = some (.ref f)
  f_moved_states : ∃ f fd, FunD K "moved_states" "moved_states" (defArgs s_moved_states) (defBody s_moved_states) (defScope s_moved_states) [] [] f fd ∧ mg "moved_states" = some (.ref f)
  f_states_behind : ∃ f fd, FunD K "states_behind" "states_behind" (defArgs s_states_behind) (defBody s_states_behind) (defScope s_states_behind) [] [] f fd ∧ mg "states_behind" = some (.ref f)
  f_ends_well : ∃ f fd, FunD K "ends_well" "ends_well" (defArgs s_ends_well) (defBody s_ends_well) (defScope s_ends_well) [] [] f fd ∧ mg "ends_well" = some (.ref f)
  f_row_lets : ∃ f fd, FunD K "row_lets" "row_lets" (defArgs s_row_lets) (defBody s_row_lets) (defScope s_row_lets) [] [] f fd ∧ mg "row_lets" = some (.ref f)
  f__law_cell_at : ∃ f fd, FunD K "_law_cell_at" "_law_cell_at" (defArgs s__law_cell_at) (defBody s__law_cell_at) (defScope s__law_cell_at) [] [] f fd ∧ mg "_law_cell_at" = some (.ref f)
  f__law_deck : ∃ f fd, FunD K "_law_deck" "_law_deck" (defArgs s__law_deck) (defBody s__law_deck) (defScope s__law_deck) [] [] f fd ∧ mg "_law_deck" = some (.ref f)
  f__law_draw : ∃ f fd, FunD K "_law_draw" "_law_draw" (defArgs s__law_draw) (defBody s__law_draw) (defScope s__law_draw) [] [] f fd ∧ mg "_law_draw" = some (.ref f)
  f__law_word : ∃ f fd, FunD K "_law_word" "_law_word" (defArgs s__law_word) (defBody s__law_word) (defScope s__law_word) [] [] f fd ∧ mg "_law_word" = some (.ref f)
  f__law_words : ∃ f fd, FunD K "_law_words" "_law_words" (defArgs s__law_words) (defBody s__law_words) (defScope s__law_words) [] [] f fd ∧ mg "_law_words" = some (.ref f)
  f__law_outs : ∃ f fd, FunD K "_law_outs" "_law_outs" (defArgs s__law_outs) (defBody s__law_outs) (defScope s__law_outs) [] [] f fd ∧ mg "_law_outs" = some (.ref f)
  f__law_kind : ∃ f fd, FunD K "_law_kind" "_law_kind" (defArgs s__law_kind) (defBody s__law_kind) (defScope s__law_kind) [] [] f fd ∧ mg "_law_kind" = some (.ref f)
  f__law_book : ∃ f fd, FunD K "_law_book" "_law_book" (defArgs s__law_book) (defBody s__law_book) (defScope s__law_book) [] [] f fd ∧ mg "_law_book" = some (.ref f)
  f__law_kind_here : ∃ f fd, FunD K "_law_kind_here" "_law_kind_here" (defArgs s__law_kind_here) (defBody s__law_kind_here) (defScope s__law_kind_here) [] [] f fd ∧ mg "_law_kind_here" = some (.ref f)
  f__law_most : ∃ f fd, FunD K "_law_most" "_law_most" (defArgs s__law_most) (defBody s__law_most) (defScope s__law_most) [] [] f fd ∧ mg "_law_most" = some (.ref f)
  f__law_read : ∃ f fd, FunD K "_law_read" "_law_read" (defArgs s__law_read) (defBody s__law_read) (defScope s__law_read) [] [] f fd ∧ mg "_law_read" = some (.ref f)
  f__law_some_row : ∃ f fd, FunD K "_law_some_row" "_law_some_row" (defArgs s__law_some_row) (defBody s__law_some_row) (defScope s__law_some_row) [] [] f fd ∧ mg "_law_some_row" = some (.ref f)
  f__law_next : ∃ f fd, FunD K "_law_next" "_law_next" (defArgs s__law_next) (defBody s__law_next) (defScope s__law_next) [] [] f fd ∧ mg "_law_next" = some (.ref f)
  f__law_ends : ∃ f fd, FunD K "_law_ends" "_law_ends" (defArgs s__law_ends) (defBody s__law_ends) (defScope s__law_ends) [] [] f fd ∧ mg "_law_ends" = some (.ref f)
  f__law_lets : ∃ f fd, FunD K "_law_lets" "_law_lets" (defArgs s__law_lets) (defBody s__law_lets) (defScope s__law_lets) [] [] f fd ∧ mg "_law_lets" = some (.ref f)
  f__law_says : ∃ f fd, FunD K "_law_says" "_law_says" (defArgs s__law_says) (defBody s__law_says) (defScope s__law_says) [] [] f fd ∧ mg "_law_says" = some (.ref f)
  f__law_sets : ∃ f fd, FunD K "_law_sets" "_law_sets" (defArgs s__law_sets) (defBody s__law_sets) (defScope s__law_sets) [] [] f fd ∧ mg "_law_sets" = some (.ref f)
  f_law : ∃ f fd, FunD K "law" "law" (defArgs s_law) (defBody s_law) (defScope s_law) [] [] f fd ∧ mg "law" = some (.ref f)
theorem bd_first_state {f : Addr} {fd : FuncData} (F : FunD K "first_state" "first_state" (defArgs s_first_state) (defBody s_first_state) (defScope s_first_state) [] [] f fd) : Binds K fd ["kind"] [] :=
  F.bindsN fun _ _ _ _ _ _ us hl => match us, hl with | [_], _ => rfl
theorem bd_state_of {f : Addr} {fd : FuncData} (F : FunD K "state_of" "state_of" (defArgs s_state_of) (defBody s_state_of) (defScope s_state_of) [] [] f fd) : Binds K fd ["kind", "state"] [] :=
  F.bindsN fun _ _ _ _ _ _ us hl => match us, hl with | [_, _], _ => rfl
theorem bd_may_be_left {f : Addr} {fd : FuncData} (F : FunD K "may_be_left" "may_be_left" (defArgs s_may_be_left) (defBody s_may_be_left) (defScope s_may_be_left) [] [] f fd) : Binds K fd ["kind", "state"] [] :=
  F.bindsN fun _ _ _ _ _ _ us hl => match us, hl with | [_, _], _ => rfl
theorem bd_hands_back {f : Addr} {fd : FuncData} (F : FunD K "hands_back" "hands_back" (defArgs s_hands_back) (defBody s_hands_back) (defScope s_hands_back) [] [] f fd) : Binds K fd ["kind"] [] :=
  F.bindsN fun _ _ _ _ _ _ us hl => match us, hl with | [_], _ => rfl
theorem bd_check_plain {f : Addr} {fd : FuncData} (F : FunD K "check_plain" "check_plain" (defArgs s_check_plain) (defBody s_check_plain) (defScope s_check_plain) [] [] f fd) : Binds K fd ["kind"] [] :=
  F.bindsN fun _ _ _ _ _ _ us hl => match us, hl with | [_], _ => rfl
theorem bd_nexts_by {f : Addr} {fd : FuncData} (F : FunD K "nexts_by" "nexts_by" (defArgs s_nexts_by) (defBody s_nexts_by) (defScope s_nexts_by) [] [] f fd) : Binds K fd ["kind"] [] :=
  F.bindsN fun _ _ _ _ _ _ us hl => match us, hl with | [_], _ => rfl
theorem bd_moved_states {f : Addr} {fd : FuncData} (F : FunD K "moved_states" "moved_states" (defArgs s_moved_states) (defBody s_moved_states) (defScope s_moved_states) [] [] f fd) : Binds K fd ["nexts", "states", "deed"] [] :=
  F.bindsN fun _ _ _ _ _ _ us hl => match us, hl with | [_, _, _], _ => rfl
theorem bd_states_behind {f : Addr} {fd : FuncData} (F : FunD K "states_behind" "states_behind" (defArgs s_states_behind) (defBody s_states_behind) (defScope s_states_behind) [] [] f fd) : Binds K fd ["kind", "states", "deed"] [] :=
  F.bindsN fun _ _ _ _ _ _ us hl => match us, hl with | [_, _, _], _ => rfl
theorem bd_ends_well {f : Addr} {fd : FuncData} (F : FunD K "ends_well" "ends_well" (defArgs s_ends_well) (defBody s_ends_well) (defScope s_ends_well) [] [] f fd) : Binds K fd ["kind", "states"] [] :=
  F.bindsN fun _ _ _ _ _ _ us hl => match us, hl with | [_, _], _ => rfl
theorem bd_row_lets {f : Addr} {fd : FuncData} (F : FunD K "row_lets" "row_lets" (defArgs s_row_lets) (defBody s_row_lets) (defScope s_row_lets) [] [] f fd) : Binds K fd ["kind", "row"] [] :=
  F.bindsN fun _ _ _ _ _ _ us hl => match us, hl with | [_, _], _ => rfl
theorem bd__law_cell_at {f : Addr} {fd : FuncData} (F : FunD K "_law_cell_at" "_law_cell_at" (defArgs s__law_cell_at) (defBody s__law_cell_at) (defScope s__law_cell_at) [] [] f fd) : Binds K fd ["_law_script", "_law_k"] [] :=
  F.bindsN fun _ _ _ _ _ _ us hl => match us, hl with | [_, _], _ => rfl
theorem bd__law_deck {f : Addr} {fd : FuncData} (F : FunD K "_law_deck" "_law_deck" (defArgs s__law_deck) (defBody s__law_deck) (defScope s__law_deck) [] [] f fd) : Binds K fd ["_law_cell"] [] :=
  F.bindsN fun _ _ _ _ _ _ us hl => match us, hl with | [_], _ => rfl
theorem bd__law_draw {f : Addr} {fd : FuncData} (F : FunD K "_law_draw" "_law_draw" (defArgs s__law_draw) (defBody s__law_draw) (defScope s__law_draw) [] [] f fd) : Binds K fd ["_law_deck_here", "_law_most_here"] [] :=
  F.bindsN fun _ _ _ _ _ _ us hl => match us, hl with | [_, _], _ => rfl
theorem bd__law_word {f : Addr} {fd : FuncData} (F : FunD K "_law_word" "_law_word" (defArgs s__law_word) (defBody s__law_word) (defScope s__law_word) [] [] f fd) : Binds K fd ["_law_deck_here", "_law_taken"] [] :=
  F.bindsN fun _ _ _ _ _ _ us hl => match us, hl with | [_, _], _ => rfl
theorem bd__law_words {f : Addr} {fd : FuncData} (F : FunD K "_law_words" "_law_words" (defArgs s__law_words) (defBody s__law_words) (defScope s__law_words) [] [] f fd) : Binds K fd ["_law_deck_here", "_law_many"] [] :=
  F.bindsN fun _ _ _ _ _ _ us hl => match us, hl with | [_, _], _ => rfl
theorem bd__law_outs {f : Addr} {fd : FuncData} (F : FunD K "_law_outs" "_law_outs" (defArgs s__law_outs) (defBody s__law_outs) (defScope s__law_outs) [] [] f fd) : Binds K fd ["_law_deck_here", "_law_state", "_law_states", "_law_names", "_law_wide"] [] :=
  F.bindsN fun _ _ _ _ _ _ us hl => match us, hl with | [_, _, _, _, _], _ => rfl
theorem bd__law_kind {f : Addr} {fd : FuncData} (F : FunD K "_law_kind" "_law_kind" (defArgs s__law_kind) (defBody s__law_kind) (defScope s__law_kind) [] [] f fd) : Binds K fd ["_law_deck_here", "_law_name", "_law_names", "_law_wide"] [] :=
  F.bindsN fun _ _ _ _ _ _ us hl => match us, hl with | [_, _, _, _], _ => rfl
theorem bd__law_book {f : Addr} {fd : FuncData} (F : FunD K "_law_book" "_law_book" (defArgs s__law_book) (defBody s__law_book) (defScope s__law_book) [] [] f fd) : Binds K fd ["_law_deck_here", "_law_wide"] [] :=
  F.bindsN fun _ _ _ _ _ _ us hl => match us, hl with | [_, _], _ => rfl
theorem bd__law_kind_here {f : Addr} {fd : FuncData} (F : FunD K "_law_kind_here" "_law_kind_here" (defArgs s__law_kind_here) (defBody s__law_kind_here) (defScope s__law_kind_here) [] [] f fd) : Binds K fd ["_law_deck_here", "_law_wide"] [] :=
  F.bindsN fun _ _ _ _ _ _ us hl => match us, hl with | [_, _], _ => rfl
theorem bd__law_most {f : Addr} {fd : FuncData} (F : FunD K "_law_most" "_law_most" (defArgs s__law_most) (defBody s__law_most) (defScope s__law_most) [] [] f fd) : Binds K fd ["_law_deck_here"] [] :=
  F.bindsN fun _ _ _ _ _ _ us hl => match us, hl with | [_], _ => rfl
theorem bd__law_read {f : Addr} {fd : FuncData} (F : FunD K "_law_read" "_law_read" (defArgs s__law_read) (defBody s__law_read) (defScope s__law_read) [] [] f fd) : Binds K fd ["_law_kind_here_here"] [] :=
  F.bindsN fun _ _ _ _ _ _ us hl => match us, hl with | [_], _ => rfl
theorem bd__law_some_row {f : Addr} {fd : FuncData} (F : FunD K "_law_some_row" "_law_some_row" (defArgs s__law_some_row) (defBody s__law_some_row) (defScope s__law_some_row) [] [] f fd) : Binds K fd ["_law_deck_here", "_law_here", "_law_many"] [] :=
  F.bindsN fun _ _ _ _ _ _ us hl => match us, hl with | [_, _, _], _ => rfl
theorem bd__law_next {f : Addr} {fd : FuncData} (F : FunD K "_law_next" "_law_next" (defArgs s__law_next) (defBody s__law_next) (defScope s__law_next) [] [] f fd) : Binds K fd ["_law_here", "_law_states", "_law_deed"] [] :=
  F.bindsN fun _ _ _ _ _ _ us hl => match us, hl with | [_, _, _], _ => rfl
theorem bd__law_ends {f : Addr} {fd : FuncData} (F : FunD K "_law_ends" "_law_ends" (defArgs s__law_ends) (defBody s__law_ends) (defScope s__law_ends) [] [] f fd) : Binds K fd ["_law_here", "_law_states"] [] :=
  F.bindsN fun _ _ _ _ _ _ us hl => match us, hl with | [_, _], _ => rfl
theorem bd__law_lets {f : Addr} {fd : FuncData} (F : FunD K "_law_lets" "_law_lets" (defArgs s__law_lets) (defBody s__law_lets) (defScope s__law_lets) [] [] f fd) : Binds K fd ["_law_here", "_law_row"] [] :=
  F.bindsN fun _ _ _ _ _ _ us hl => match us, hl with | [_, _], _ => rfl
theorem bd__law_says {f : Addr} {fd : FuncData} (F : FunD K "_law_says" "_law_says" (defArgs s__law_says) (defBody s__law_says) (defScope s__law_says) [] [] f fd) : Binds K fd ["_law_found", "_law_due"] [] :=
  F.bindsN fun _ _ _ _ _ _ us hl => match us, hl with | [_, _], _ => rfl
theorem bd__law_sets {f : Addr} {fd : FuncData} (F : FunD K "_law_sets" "_law_sets" (defArgs s__law_sets) (defBody s__law_sets) (defScope s__law_sets) [] [] f fd) : Binds K fd ["_law_deck_here", "_law_here"] [] :=
  F.bindsN fun _ _ _ _ _ _ us hl => match us, hl with | [_, _], _ => rfl
theorem bd_law {f : Addr} {fd : FuncData} (F : FunD K "law" "law" (defArgs s_law) (defBody s_law) (defScope s_law) [] [] f fd) : Binds K fd ["_law_script"] [] :=
  F.bindsN fun _ _ _ _ _ _ us hl => match us, hl with | [_], _ => rfl
theorem hh_all (G : Glob K mg) (A : Facts K mg) : ∀ n, HH P w K mg base n (TT n)
  | 0 => fun j hj x ps h => by
    cases hj
  | n + 1 => fun j hj x ps h => by
    cases hj
theorem hc_0 (G : Glob K mg) (A : Facts K mg) : HC P w K mg base 0 (TT 0) := fun j x ps h => by
    match j, h with
    | 0, h => cases h; obtain ⟨f, fd, F, m⟩ := A.f_first_state; exact ⟨f, fd, fnAt_bad, m, F.kp, bd_first_state F⟩
    | 1, h => cases h; obtain ⟨f, fd, F, m⟩ := A.f_state_of; exact ⟨f, fd, fnAt_bad, m, F.kp, bd_state_of F⟩
    | 2, h => cases h; obtain ⟨f, fd, F, m⟩ := A.f_may_be_left; exact ⟨f, fd, fnAt_bad, m, F.kp, bd_may_be_left F⟩
    | 3, h => cases h; obtain ⟨f, fd, F, m⟩ := A.f_hands_back; exact ⟨f, fd, fnAt_bad, m, F.kp, bd_hands_back F⟩
    | 4, h => cases h; obtain ⟨f, fd, F, m⟩ := A.f_check_plain; exact ⟨f, fd, fnAt_bad, m, F.kp, bd_check_plain F⟩
    | 5, h => cases h; obtain ⟨f, fd, F, m⟩ := A.f_nexts_by; exact ⟨f, fd, fnAt_bad, m, F.kp, bd_nexts_by F⟩
    | 6, h => cases h; obtain ⟨f, fd, F, m⟩ := A.f_moved_states; exact ⟨f, fd, fnAt_bad, m, F.kp, bd_moved_states F⟩
    | 7, h => cases h; obtain ⟨f, fd, F, m⟩ := A.f_states_behind; exact ⟨f, fd, fnAt_bad, m, F.kp, bd_states_behind F⟩
    | 8, h => cases h; obtain ⟨f, fd, F, m⟩ := A.f_ends_well; exact ⟨f, fd, fnAt_bad, m, F.kp, bd_ends_well F⟩
    | 9, h => cases h; obtain ⟨f, fd, F, m⟩ := A.f_row_lets; exact ⟨f, fd, fnAt_bad, m, F.kp, bd_row_lets F⟩
    | 10, h => cases h; obtain ⟨f, fd, F, m⟩ := A.f__law_cell_at; exact ⟨f, fd, fnAt_bad, m, F.kp, bd__law_cell_at F⟩
    | 11, h => cases h; obtain ⟨f, fd, F, m⟩ := A.f__law_deck; exact ⟨f, fd, fnAt_bad, m, F.kp, bd__law_deck F⟩
    | 12, h => cases h; obtain ⟨f, fd, F, m⟩ := A.f__law_draw; exact ⟨f, fd, fnAt_bad, m, F.kp, bd__law_draw F⟩
    | 13, h => cases h; obtain ⟨f, fd, F, m⟩ := A.f__law_word; exact ⟨f, fd, fnAt_bad, m, F.kp, bd__law_word F⟩
    | 14, h => cases h; obtain ⟨f, fd, F, m⟩ := A.f__law_words; exact ⟨f, fd, fnAt_bad, m, F.kp, bd__law_words F⟩
    | 15, h => cases h; obtain ⟨f, fd, F, m⟩ := A.f__law_outs; exact ⟨f, fd, fnAt_bad, m, F.kp, bd__law_outs F⟩
    | 16, h => cases h; obtain ⟨f, fd, F, m⟩ := A.f__law_kind; exact ⟨f, fd, fnAt_bad, m, F.kp, bd__law_kind F⟩
    | 17, h => cases h; obtain ⟨f, fd, F, m⟩ := A.f__law_book; exact ⟨f, fd, fnAt_bad, m, F.kp, bd__law_book F⟩
    | 18, h => cases h; obtain ⟨f, fd, F, m⟩ := A.f__law_kind_here; exact ⟨f, fd, fnAt_bad, m, F.kp, bd__law_kind_here F⟩
    | 19, h => cases h; obtain ⟨f, fd, F, m⟩ := A.f__law_most; exact ⟨f, fd, fnAt_bad, m, F.kp, bd__law_most F⟩
    | 20, h => cases h; obtain ⟨f, fd, F, m⟩ := A.f__law_read; exact ⟨f, fd, fnAt_bad, m, F.kp, bd__law_read F⟩
    | 21, h => cases h; obtain ⟨f, fd, F, m⟩ := A.f__law_some_row; exact ⟨f, fd, fnAt_bad, m, F.kp, bd__law_some_row F⟩
    | 22, h => cases h; obtain ⟨f, fd, F, m⟩ := A.f__law_next; exact ⟨f, fd, fnAt_bad, m, F.kp, bd__law_next F⟩
    | 23, h => cases h; obtain ⟨f, fd, F, m⟩ := A.f__law_ends; exact ⟨f, fd, fnAt_bad, m, F.kp, bd__law_ends F⟩
    | 24, h => cases h; obtain ⟨f, fd, F, m⟩ := A.f__law_lets; exact ⟨f, fd, fnAt_bad, m, F.kp, bd__law_lets F⟩
    | 25, h => cases h; obtain ⟨f, fd, F, m⟩ := A.f__law_says; exact ⟨f, fd, fnAt_bad, m, F.kp, bd__law_says F⟩
    | 26, h => cases h; obtain ⟨f, fd, F, m⟩ := A.f__law_sets; exact ⟨f, fd, fnAt_bad, m, F.kp, bd__law_sets F⟩
    | 27, h => cases h; obtain ⟨f, fd, F, m⟩ := A.f_law; exact ⟨f, fd, fnAt_bad, m, F.kp, bd_law F⟩
    | j + 28, h => cases h
theorem hc_s (G : Glob K mg) (A : Facts K mg) {n : Nat} (hc : HC P w K mg base n (TT n)) : HC P w K mg base (n + 1) (TT (n + 1)) := fun j x ps h => by
    match j, h with
    | 0, h => cases h; obtain ⟨f, fd, F, m⟩ := A.f_first_state; exact ⟨f, fd, d_first_state G hc (hh_all G A n) F, m, F.kp, bd_first_state F⟩
    | 1, h => cases h; obtain ⟨f, fd, F, m⟩ := A.f_state_of; exact ⟨f, fd, d_state_of G hc (hh_all G A n) F, m, F.kp, bd_state_of F⟩
    | 2, h => cases h; obtain ⟨f, fd, F, m⟩ := A.f_may_be_left; exact ⟨f, fd, d_may_be_left G hc (hh_all G A n) F, m, F.kp, bd_may_be_left F⟩
    | 3, h => cases h; obtain ⟨f, fd, F, m⟩ := A.f_hands_back; exact ⟨f, fd, d_hands_back G hc (hh_all G A n) F, m, F.kp, bd_hands_back F⟩
    | 4, h => cases h; obtain ⟨f, fd, F, m⟩ := A.f_check_plain; exact ⟨f, fd, d_check_plain G hc (hh_all G A n) F, m, F.kp, bd_check_plain F⟩
    | 5, h => cases h; obtain ⟨f, fd, F, m⟩ := A.f_nexts_by; exact ⟨f, fd, d_nexts_by G hc (hh_all G A n) F, m, F.kp, bd_nexts_by F⟩
    | 6, h => cases h; obtain ⟨f, fd, F, m⟩ := A.f_moved_states; exact ⟨f, fd, d_moved_states G hc (hh_all G A n) F, m, F.kp, bd_moved_states F⟩
    | 7, h => cases h; obtain ⟨f, fd, F, m⟩ := A.f_states_behind; exact ⟨f, fd, d_states_behind G hc (hh_all G A n) F, m, F.kp, bd_states_behind F⟩
    | 8, h => cases h; obtain ⟨f, fd, F, m⟩ := A.f_ends_well; exact ⟨f, fd, d_ends_well G hc (hh_all G A n) F, m, F.kp, bd_ends_well F⟩
    | 9, h => cases h; obtain ⟨f, fd, F, m⟩ := A.f_row_lets; exact ⟨f, fd, d_row_lets G hc (hh_all G A n) F, m, F.kp, bd_row_lets F⟩
    | 10, h => cases h; obtain ⟨f, fd, F, m⟩ := A.f__law_cell_at; exact ⟨f, fd, d__law_cell_at G hc (hh_all G A n) F, m, F.kp, bd__law_cell_at F⟩
    | 11, h => cases h; obtain ⟨f, fd, F, m⟩ := A.f__law_deck; exact ⟨f, fd, d__law_deck G hc (hh_all G A n) F, m, F.kp, bd__law_deck F⟩
    | 12, h => cases h; obtain ⟨f, fd, F, m⟩ := A.f__law_draw; exact ⟨f, fd, d__law_draw G hc (hh_all G A n) F, m, F.kp, bd__law_draw F⟩
    | 13, h => cases h; obtain ⟨f, fd, F, m⟩ := A.f__law_word; exact ⟨f, fd, d__law_word G hc (hh_all G A n) F, m, F.kp, bd__law_word F⟩
    | 14, h => cases h; obtain ⟨f, fd, F, m⟩ := A.f__law_words; exact ⟨f, fd, d__law_words G hc (hh_all G A n) F, m, F.kp, bd__law_words F⟩
    | 15, h => cases h; obtain ⟨f, fd, F, m⟩ := A.f__law_outs; exact ⟨f, fd, d__law_outs G hc (hh_all G A n) F, m, F.kp, bd__law_outs F⟩
    | 16, h => cases h; obtain ⟨f, fd, F, m⟩ := A.f__law_kind; exact ⟨f, fd, d__law_kind G hc (hh_all G A n) F, m, F.kp, bd__law_kind F⟩
    | 17, h => cases h; obtain ⟨f, fd, F, m⟩ := A.f__law_book; exact ⟨f, fd, d__law_book G hc (hh_all G A n) F, m, F.kp, bd__law_book F⟩
    | 18, h => cases h; obtain ⟨f, fd, F, m⟩ := A.f__law_kind_here; exact ⟨f, fd, d__law_kind_here G hc (hh_all G A n) F, m, F.kp, bd__law_kind_here F⟩
    | 19, h => cases h; obtain ⟨f, fd, F, m⟩ := A.f__law_most; exact ⟨f, fd, d__law_most G hc (hh_all G A n) F, m, F.kp, bd__law_most F⟩
    | 20, h => cases h; obtain ⟨f, fd, F, m⟩ := A.f__law_read; exact ⟨f, fd, d__law_read G hc (hh_all G A n) F, m, F.kp, bd__law_read F⟩
    | 21, h => cases h; obtain ⟨f, fd, F, m⟩ := A.f__law_some_row; exact ⟨f, fd, d__law_some_row G hc (hh_all G A n) F, m, F.kp, bd__law_some_row F⟩
    | 22, h => cases h; obtain ⟨f, fd, F, m⟩ := A.f__law_next; exact ⟨f, fd, d__law_next G hc (hh_all G A n) F, m, F.kp, bd__law_next F⟩
    | 23, h => cases h; obtain ⟨f, fd, F, m⟩ := A.f__law_ends; exact ⟨f, fd, d__law_ends G hc (hh_all G A n) F, m, F.kp, bd__law_ends F⟩
    | 24, h => cases h; obtain ⟨f, fd, F, m⟩ := A.f__law_lets; exact ⟨f, fd, d__law_lets G hc (hh_all G A n) F, m, F.kp, bd__law_lets F⟩
    | 25, h => cases h; obtain ⟨f, fd, F, m⟩ := A.f__law_says; exact ⟨f, fd, d__law_says G hc (hh_all G A n) F, m, F.kp, bd__law_says F⟩
    | 26, h => cases h; obtain ⟨f, fd, F, m⟩ := A.f__law_sets; exact ⟨f, fd, d__law_sets G hc (hh_all G A n) F, m, F.kp, bd__law_sets F⟩
    | 27, h => cases h; obtain ⟨f, fd, F, m⟩ := A.f_law; exact ⟨f, fd, d_law G hc (hh_all G A n) F, m, F.kp, bd_law F⟩
    | j + 28, h => cases h
theorem hc_all (G : Glob K mg) (A : Facts K mg) : ∀ n, HC P w K mg base n (TT n)
  | 0 => hc_0 G A
  | n + 1 => hc_s G A (hc_all G A n)
end
theorem ob_eq (s : PySem.W.SharedT) : ob s = hk.obs s.abs := obsS_eq (HandSHeadRun.getT_eq s)
theorem facts_of {w : World} {K : PySem.W.Frag} {h : Heap} {mg : Str → Option Value} (X : K.In h) (G : h.Ns mainGlobals mg) (c : He.SaysD faL fnL K ∧ exL K = true) : Glob K mg ∧ Facts K mg := by
  have cd := c.1
  obtain ⟨cm0, cx⟩ := (Bool.and_eq_true_iff.mp (show (_ && _) = true from c.2))
  have cm : ∀ p ∈ cnL, chkG K p = true := List.all_eq_true.mp cm0
  obtain ⟨cx0, cx⟩ := Bool.and_eq_true_iff.mp cx
  have cx1 := cx
  refine ⟨⟨?z_all, ?z_any, ?z_bool, ?z_int, ?z_isinstance, ?z_len, ?z_range, ?z_set, ?z_sorted, ?z_tuple, ?xf, ?x_NoPairing⟩, ⟨?f_first_state, ?f_state_of, ?f_may_be_left, ?f_hands_back, ?f_check_plain, ?f_nexts_by, ?f_moved_states, ?f_states_behind, ?f_ends_well, ?f_row_lets, ?f__law_cell_at, ?f__law_deck, ?f__law_draw, ?f__law_word, ?f__law_words, ?f__law_outs, ?f__law_kind, ?f__law_book, ?f__law_kind_here, ?f__law_most, ?f__law_read, ?f__law_some_row, ?f__law_next, ?f__law_ends, ?f__law_lets, ?f__law_says, ?f__law_sets, ?f_law⟩⟩
  case z_all => exact He.free_ok X G (cd.fact 28 (f := .free "all") rfl)
  case z_any => exact He.free_ok X G (cd.fact 29 (f := .free "any") rfl)
  case z_bool => exact He.free_ok X G (cd.fact 30 (f := .free "bool") rfl)
  case z_int => exact He.free_ok X G (cd.fact 31 (f := .free "int") rfl)
  case z_isinstance => exact He.free_ok X G (cd.fact 32 (f := .free "isinstance") rfl)
  case z_len => exact He.free_ok X G (cd.fact 33 (f := .free "len") rfl)
  case z_range => exact He.free_ok X G (cd.fact 34 (f := .free "range") rfl)
  case z_set => exact He.free_ok X G (cd.fact 35 (f := .free "set") rfl)
  case z_sorted => exact He.free_ok X G (cd.fact 36 (f := .free "sorted") rfl)
  case z_tuple => exact He.free_ok X G (cd.fact 37 (f := .free "tuple") rfl)
  case xf => exact xallB_ok X G cx0
  case x_NoPairing => exact xno_ok X G cx1
  case f_first_state => obtain ⟨fd, F⟩ := cd.def_ 0 (d := e_first_state) rfl; exact ⟨_, fd, F, He.glo_ok X G (cd.fact 0 (f := .glo "first_state") rfl)⟩
  case f_state_of => obtain ⟨fd, F⟩ := cd.def_ 1 (d := e_state_of) rfl; exact ⟨_, fd, F, He.glo_ok X G (cd.fact 1 (f := .glo "state_of") rfl)⟩
  case f_may_be_left => obtain ⟨fd, F⟩ := cd.def_ 2 (d := e_may_be_left) rfl; exact ⟨_, fd, F, He.glo_ok X G (cd.fact 2 (f := .glo "may_be_left") rfl)⟩
  case f_hands_back => obtain ⟨fd, F⟩ := cd.def_ 3 (d := e_hands_back) rfl; exact ⟨_, fd, F, He.glo_ok X G (cd.fact 3 (f := .glo "hands_back") rfl)⟩
  case f_check_plain => obtain ⟨fd, F⟩ := cd.def_ 4 (d := e_check_plain) rfl; exact ⟨_, fd, F, He.glo_ok X G (cd.fact 4 (f := .glo "check_plain") rfl)⟩
  case f_nexts_by => obtain ⟨fd, F⟩ := cd.def_ 5 (d := e_nexts_by) rfl; exact ⟨_, fd, F, He.glo_ok X G (cd.fact 5 (f := .glo "nexts_by") rfl)⟩
  case f_moved_states => obtain ⟨fd, F⟩ := cd.def_ 6 (d := e_moved_states) rfl; exact ⟨_, fd, F, He.glo_ok X G (cd.fact 6 (f := .glo "moved_states") rfl)⟩
  case f_states_behind => obtain ⟨fd, F⟩ := cd.def_ 7 (d := e_states_behind) rfl; exact ⟨_, fd, F, He.glo_ok X G (cd.fact 7 (f := .glo "states_behind") rfl)⟩
  case f_ends_well => obtain ⟨fd, F⟩ := cd.def_ 8 (d := e_ends_well) rfl; exact ⟨_, fd, F, He.glo_ok X G (cd.fact 8 (f := .glo "ends_well") rfl)⟩
  case f_row_lets => obtain ⟨fd, F⟩ := cd.def_ 9 (d := e_row_lets) rfl; exact ⟨_, fd, F, He.glo_ok X G (cd.fact 9 (f := .glo "row_lets") rfl)⟩
  case f__law_cell_at => obtain ⟨fd, F⟩ := cd.def_ 10 (d := e__law_cell_at) rfl; exact ⟨_, fd, F, He.glo_ok X G (cd.fact 10 (f := .glo "_law_cell_at") rfl)⟩
  case f__law_deck => obtain ⟨fd, F⟩ := cd.def_ 11 (d := e__law_deck) rfl; exact ⟨_, fd, F, He.glo_ok X G (cd.fact 11 (f := .glo "_law_deck") rfl)⟩
  case f__law_draw => obtain ⟨fd, F⟩ := cd.def_ 12 (d := e__law_draw) rfl; exact ⟨_, fd, F, He.glo_ok X G (cd.fact 12 (f := .glo "_law_draw") rfl)⟩
  case f__law_word => obtain ⟨fd, F⟩ := cd.def_ 13 (d := e__law_word) rfl; exact ⟨_, fd, F, He.glo_ok X G (cd.fact 13 (f := .glo "_law_word") rfl)⟩
  case f__law_words => obtain ⟨fd, F⟩ := cd.def_ 14 (d := e__law_words) rfl; exact ⟨_, fd, F, He.glo_ok X G (cd.fact 14 (f := .glo "_law_words") rfl)⟩
  case f__law_outs => obtain ⟨fd, F⟩ := cd.def_ 15 (d := e__law_outs) rfl; exact ⟨_, fd, F, He.glo_ok X G (cd.fact 15 (f := .glo "_law_outs") rfl)⟩
  case f__law_kind => obtain ⟨fd, F⟩ := cd.def_ 16 (d := e__law_kind) rfl; exact ⟨_, fd, F, He.glo_ok X G (cd.fact 16 (f := .glo "_law_kind") rfl)⟩
  case f__law_book => obtain ⟨fd, F⟩ := cd.def_ 17 (d := e__law_book) rfl; exact ⟨_, fd, F, He.glo_ok X G (cd.fact 17 (f := .glo "_law_book") rfl)⟩
  case f__law_kind_here => obtain ⟨fd, F⟩ := cd.def_ 18 (d := e__law_kind_here) rfl; exact ⟨_, fd, F, He.glo_ok X G (cd.fact 18 (f := .glo "_law_kind_here") rfl)⟩
  case f__law_most => obtain ⟨fd, F⟩ := cd.def_ 19 (d := e__law_most) rfl; exact ⟨_, fd, F, He.glo_ok X G (cd.fact 19 (f := .glo "_law_most") rfl)⟩
  case f__law_read => obtain ⟨fd, F⟩ := cd.def_ 20 (d := e__law_read) rfl; exact ⟨_, fd, F, He.glo_ok X G (cd.fact 20 (f := .glo "_law_read") rfl)⟩
  case f__law_some_row => obtain ⟨fd, F⟩ := cd.def_ 21 (d := e__law_some_row) rfl; exact ⟨_, fd, F, He.glo_ok X G (cd.fact 21 (f := .glo "_law_some_row") rfl)⟩
  case f__law_next => obtain ⟨fd, F⟩ := cd.def_ 22 (d := e__law_next) rfl; exact ⟨_, fd, F, He.glo_ok X G (cd.fact 22 (f := .glo "_law_next") rfl)⟩
  case f__law_ends => obtain ⟨fd, F⟩ := cd.def_ 23 (d := e__law_ends) rfl; exact ⟨_, fd, F, He.glo_ok X G (cd.fact 23 (f := .glo "_law_ends") rfl)⟩
  case f__law_lets => obtain ⟨fd, F⟩ := cd.def_ 24 (d := e__law_lets) rfl; exact ⟨_, fd, F, He.glo_ok X G (cd.fact 24 (f := .glo "_law_lets") rfl)⟩
  case f__law_says => obtain ⟨fd, F⟩ := cd.def_ 25 (d := e__law_says) rfl; exact ⟨_, fd, F, He.glo_ok X G (cd.fact 25 (f := .glo "_law_says") rfl)⟩
  case f__law_sets => obtain ⟨fd, F⟩ := cd.def_ 26 (d := e__law_sets) rfl; exact ⟨_, fd, F, He.glo_ok X G (cd.fact 26 (f := .glo "_law_sets") rfl)⟩
  case f_law => obtain ⟨fd, F⟩ := cd.def_ 27 (d := e_law) rfl; exact ⟨_, fd, F, He.glo_ok X G (cd.fact 27 (f := .glo "law") rfl)⟩
end My
open PySem PySem.W PySem.Calls PyProof.Rows
theorem PySem.Challenge.cw_inorder_k71_states_behind_deeds_holds : PySem.Challenge.rw_inorder_k71_states_behind_deeds.Holds := by
  w_on; o_law
  refine HandSHeadRun.head_any (r := OpenLaw.row PySem.Challenge.rw_inorder_k71_states_behind_deeds) (q := view (OpenLaw.row PySem.Challenge.rw_inorder_k71_states_behind_deeds).prog [34]) (H := My.hk) (ob := My.ob) (M := 9000) (loose := My.loose0) (d := HandSHeadRun.topDef (OpenLaw.row PySem.Challenge.rw_inorder_k71_states_behind_deeds).prog 34) (kwd := []) My.ob_eq
    (by kernel_rfl) (fun s => by kernel_rfl) My.run (by kernel_rfl) (by kernel_rfl) (by kernel_rfl) (by rfl) (by first | assumption | decide +kernel) (by decide +kernel) ⟨rfl, rfl, rfl, rfl, rfl, by decide +kernel⟩ ?hw ?hc
  case hw => w_witness2
  case hc =>
    refine Ev.walk_ofE2 (l := PySem.Challenge.rw_inorder_k71_states_behind_deeds) (n := 63) (k := 230) (x := "_law_script") rfl (by decide) (by kernel_rfl) Ev.room230 ?F
    intro w mg fa h Y G hmg0
    obtain ⟨K, KX, c⟩ := Y
    obtain ⟨Gl, Fa⟩ := My.facts_of (w := w) KX G c
    have hmg : mg ("law" : PySem.Str) = some (.ref fa) := by
      have e : (HandSHeadRun.topDef (OpenLaw.row PySem.Challenge.rw_inorder_k71_states_behind_deeds).prog 34).name = ("law" : PySem.Str) := by kernel_rfl
      rw [← e]
      exact hmg0
    obtain ⟨f, fd, F, m⟩ := Fa.f_law
    have e := hmg.symm.trans m
    cases e
    have b := L2.FunD.bindsA (ps := ["_law_script"]) F fun _ _ _ _ _ _ us hl => match us, hl with | [_], _ => rfl
    exact ⟨K, fd, _, KX, fun s v => b s [v] rfl, fun H a ns hl hO hS => Ev.law_sp My.law_true hl hO hS, fun base _ _ => My.d_law Gl (My.hc_all Gl Fa 227) (My.hh_all Gl Fa 227) F⟩
