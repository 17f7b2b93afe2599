import PyProof.Rows.All
import Wide.All
import OpenK.AllK
import Wide.FinOn
import PySem.Challenge.RW_singlegates_k26_whole_the_least_lot_of_a
import HandS.ForMost
import HandS.ForExc
import HandS.TupSets
import HandS.Walk
import HandS.TupAny
import HandS.TupLe
import HandS.IsInst
import HandS.Deep
import HandS.Wide
import HandS.SortInts
import HandS.EndBits
import HandS.Conv
import HandS.TryMany
import HandS.Strs
import HandS.Defaults
import HandS.HeadHook2
import KE.GoesZip
import KE.KDictZip
import HandS.Zip
import KE.GoesEnum
import PyProof.ListNew
import HandS.Style
import PyProof.SumWalk
import PyProof.WalksMore
import HandS.SetFor
import HandS.SortRule
import HandS.More
import KE.KStateDown
import HandS.Head0
import HandS.Head1
import HandS.Head2
import HandS.HeadEnd
import HandS.HeadHook1
set_option Elab.async false
set_option linter.all false
set_option maxRecDepth 100000
set_option maxHeartbeats 4000000
set_option autoImplicit false
/-! Fx: values as plain data, a store of objects by number, defs as total functions. Part A: data, relations. -/
namespace Fx
open PySem PySem.Spec PyProof.Rows L2

/-- a value as data; ref n: the object n of the store; lz: a list that nobody can write (the script) -/
inductive D where
  | non | bl (b : Bool) | int (i : Int) | str (x : Str) | tup (xs : List D) | ref (n : Nat) | lz (xs : List D)

/-- an object: a list; a dict by ints and texts; a dict by tuples of such; a set of tuples of ints -/
inductive O where
  | lst (xs : List D) | dK (kvs : List (Key × D)) | dT (kvs : List (List Key × D)) | sT (L : List (List Int)) | sI (L : List Int)

abbrev Store := List O
abbrev Env := List (Option D)
/-- what an expression gives: a value, or a new object that nobody holds yet -/
inductive R where
  | v (d : D) | o (x : O)

/-- an exception: its class by name, its fields -/
structure Ex where
  cls : Str
  fs : List (Str × D)

inductive Out (α : Type) where
  | ok (a : α) (st : Store) | exc (e : Ex) (st : Store) | stuck

def Out.bind {α β : Type} (x : Out α) (f : α → Store → Out β) : Out β :=
  match x with
  | .ok a st => f a st
  | .exc e st => .exc e st
  | .stuck => .stuck
@[simp] theorem Out.bind_ok {α β : Type} (a : α) (st : Store) (f : α → Store → Out β) : (Out.ok a st).bind f = f a st := rfl
@[simp] theorem Out.bind_exc {α β : Type} (e : Ex) (st : Store) (f : α → Store → Out β) : (Out.exc e st : Out α).bind f = .exc e st := rfl
@[simp] theorem Out.bind_stuck {α β : Type} (f : α → Store → Out β) : (Out.stuck : Out α).bind f = .stuck := rfl

/-! ### relations -/
def FzL (K : PySem.W.Frag) (H : Hp) (a : Addr) (xs : List V) : Prop :=
  (∃ o, H a = some (.frz o (.lst xs))) ∨
    ∃ (o : Obj) (its : Array Value) (n : Nat), K.lookup a = some o ∧ o.cls = .type "list" ∧ o.dict = none ∧ o.data = .seq its n ∧ its.size ≤ sizeLine ∧ Vals xs its.toList
theorem FzL.sq {K : PySem.W.Frag} {H : Hp} {a : Addr} {xs : List V} (h : FzL K H a xs) : SqL K H a xs := by
  rcases h with h | h
  · exact .inl (.inr h)
  · exact .inr h
mutual
inductive RD (K : PySem.W.Frag) (H : Hp) (φ : List Addr) : D → V → Prop
  | non : RD K H φ .non .non
  | bl (b : Bool) : RD K H φ (.bl b) (.bl b)
  | int (i : Int) : RD K H φ (.int i) (.int i)
  | str (x : Str) : RD K H φ (.str x) (.str x)
  | tup {a : Addr} {vs : List V} {xs : List D} (h : H a = some (.tup vs)) (r : RDs K H φ xs vs) : RD K H φ (.tup xs) (.ref a)
  | ref {n : Nat} {a : Addr} (h : φ[n]? = some a) : RD K H φ (.ref n) (.ref a)
  | lz {a : Addr} {vs : List V} {xs : List D} (h : FzL K H a vs) (r : RDs K H φ xs vs) : RD K H φ (.lz xs) (.ref a)
inductive RDs (K : PySem.W.Frag) (H : Hp) (φ : List Addr) : List D → List V → Prop
  | nil : RDs K H φ [] []
  | cons {d : D} {ds : List D} {v : V} {vs : List V} (h : RD K H φ d v) (t : RDs K H φ ds vs) : RDs K H φ (d :: ds) (v :: vs)
end

/-- the values of a dict -/
inductive RKs {κ : Type} (K : PySem.W.Frag) (H : Hp) (φ : List Addr) : List (κ × D) → List (κ × V) → Prop
  | nil : RKs K H φ [] []
  | cons {k : κ} {d : D} {ds : List (κ × D)} {v : V} {vs : List (κ × V)} (h : RD K H φ d v) (t : RKs K H φ ds vs) : RKs K H φ ((k, d) :: ds) ((k, v) :: vs)

variable (P : Program) (w : World)

inductive RO (K : PySem.W.Frag) (H : Hp) (φ : List Addr) : O → Addr → Prop
  | lst {a : Addr} {xs : List D} {vs : List V} (h : H a = some (.lst vs)) (r : RDs K H φ xs vs) : RO K H φ (.lst xs) a
  | dK {a : Addr} {kvs : List (Key × D)} {kws : List (Key × V)} (h : H a = some (.dK kws)) (r : RKs K H φ kvs kws) : RO K H φ (.dK kvs) a
  | dT {a : Addr} {kvs : List (List Key × D)} {kws : List (List Key × V)} (h : H a = some (.dT kws)) (r : RKs K H φ kvs kws) : RO K H φ (.dT kvs) a
  | sT {a : Addr} {L : List (List Int)} {M : List (Addr × List Int)} (h : H a = some (SetTO P w a M)) (t : ∀ p ∈ M, H p.1 = some (.tup (p.2.map V.int))) (e : ∀ t : List Int, t ∈ M.map (·.2) ↔ t ∈ L) : RO K H φ (.sT L) a
  | sI {a : Addr} {L : List Int} {S : Int → Bool} {n : Nat} (h : H a = some (SetO w a S n)) (m : ∀ k : Int, k ∈ L ↔ S k = true) (e : L.length = n) (nd : L.Nodup) : RO K H φ (.sI L) a

inductive ROs (K : PySem.W.Frag) (H : Hp) (φ : List Addr) : List O → List Addr → Prop
  | nil : ROs K H φ [] []
  | cons {o : O} {os : List O} {a : Addr} {as : List Addr} (h : RO P w K H φ o a) (t : ROs K H φ os as) : ROs K H φ (o :: os) (a :: as)

/-- the store lies in the heap -/
structure RS (K : PySem.W.Frag) (H : Hp) (φ : List Addr) (st : Store) : Prop where
  nd : φ.Nodup
  os : ROs P w K H φ st φ

/-- the slots -/
structure RE (K : PySem.W.Frag) (H : Hp) (φ : List Addr) (env : Env) (σ : L2.St) : Prop where
  len : env.length = σ.length
  get : ∀ (i : Nat) (d : D), env[i]? = some (some d) → ∃ v, σ[i]? = some (some v) ∧ RD K H φ d v

/-- what a step keeps -/
structure Ext (H : Hp) (φ : List Addr) (H' : Hp) (φ' : List Addr) : Prop where
  pre : ∃ ψ, φ' = φ ++ ψ ∧ ∀ a ∈ ψ, H a = none
  tup : ∀ a xs, H a = some (.tup xs) → H' a = some (.tup xs)
  frz : ∀ a o u, H a = some (.frz o u) → H' a = some (.frz o u)
  keep : ∀ a o, H a = some o → a ∉ φ → H' a = some o
  trk : ∀ a o, H a = some o → ∃ o', H' a = some o'

theorem Ext.refl {H : Hp} {φ : List Addr} : Ext H φ H φ := ⟨⟨[], by simp, by simp⟩, fun _ _ h => h, fun _ _ _ h => h, fun _ _ h _ => h, fun _ o h => ⟨o, h⟩⟩
theorem Ext.none_of {H H' : Hp} {φ φ' : List Addr} (e : Ext H φ H' φ') {a : Addr} (h : H' a = none) : H a = none := by
  cases q : H a with
  | none => rfl
  | some o => obtain ⟨o', z⟩ := e.trk a o q; rw [h] at z; cases z
theorem Ext.notin {H H' : Hp} {φ φ' : List Addr} (e : Ext H φ H' φ') {a : Addr} {o : HO} (h : H a = some o) (n : a ∉ φ) : a ∉ φ' := by
  obtain ⟨ψ, rfl, q⟩ := e.pre
  intro z
  rcases List.mem_append.mp z with z | z
  · exact n z
  · rw [q a z] at h; cases h
theorem Ext.trans {H H1 H2 : Hp} {φ φ1 φ2 : List Addr} (a : Ext H φ H1 φ1) (b : Ext H1 φ1 H2 φ2) : Ext H φ H2 φ2 where
  pre := by
    obtain ⟨ψ, rfl, q⟩ := a.pre
    obtain ⟨χ, rfl, r⟩ := b.pre
    refine ⟨ψ ++ χ, by simp, fun c hc => ?_⟩
    rcases List.mem_append.mp hc with z | z
    · exact q c z
    · exact a.none_of (r c z)
  tup := fun c xs h => b.tup c xs (a.tup c xs h)
  frz := fun c o u h => b.frz c o u (a.frz c o u h)
  keep := fun c o h n => b.keep c o (a.keep c o h n) (a.notin h n)
  trk := fun c o h => by
    obtain ⟨o1, h1⟩ := a.trk c o h
    exact b.trk c o1 h1
theorem Ext.get {H H' : Hp} {φ φ' : List Addr} (e : Ext H φ H' φ') {n : Nat} {a : Addr} (h : φ[n]? = some a) : φ'[n]? = some a := by
  obtain ⟨ψ, rfl, _⟩ := e.pre
  rw [List.getElem?_append_left (List.getElem?_eq_some_iff.mp h).1]
  exact h
theorem Ext.fzL {K : PySem.W.Frag} {H H' : Hp} {φ φ' : List Addr} (e : Ext H φ H' φ') {a : Addr} {vs : List V} (h : FzL K H a vs) : FzL K H' a vs := by
  rcases h with ⟨o, h⟩ | h
  · exact .inl ⟨o, e.frz _ _ _ h⟩
  · exact .inr h

section
variable {P : Program} {w : World} {K : PySem.W.Frag} {H H' : Hp} {φ φ' : List Addr}
/-- values stand where tuples stand -/
structure Mono (K : PySem.W.Frag) (H : Hp) (φ : List Addr) (H' : Hp) (φ' : List Addr) : Prop where
  sq : ∀ a vs, H a = some (.tup vs) → H' a = some (.tup vs)
  fz : ∀ a vs, FzL K H a vs → FzL K H' a vs
  get : ∀ (n : Nat) (a : Addr), φ[n]? = some a → φ'[n]? = some a
theorem Ext.mono (e : Ext H φ H' φ') : Mono K H φ H' φ' := ⟨fun a vs h => e.tup a vs h, fun _ _ h => e.fzL h, fun _ _ h => e.get h⟩
mutual
theorem RD.mono (m : Mono K H φ H' φ') : ∀ {d : D} {v : V}, RD K H φ d v → RD K H' φ' d v
  | _, _, .non => .non
  | _, _, .bl b => .bl b
  | _, _, .int i => .int i
  | _, _, .str x => .str x
  | _, _, .tup h r => .tup (m.sq _ _ h) (RDs.mono m r)
  | _, _, .ref h => .ref (m.get _ _ h)
  | _, _, .lz h r => .lz (m.fz _ _ h) (RDs.mono m r)
theorem RDs.mono (m : Mono K H φ H' φ') : ∀ {ds : List D} {vs : List V}, RDs K H φ ds vs → RDs K H' φ' ds vs
  | _, _, .nil => .nil
  | _, _, .cons h t => .cons (RD.mono m h) (RDs.mono m t)
end
theorem RKs.mono {κ : Type} (m : Mono K H φ H' φ') : ∀ {ds : List (κ × D)} {vs : List (κ × V)}, RKs K H φ ds vs → RKs K H' φ' ds vs
  | _, _, .nil => .nil
  | _, _, .cons h t => .cons (h.mono m) (RKs.mono m t)
theorem RE.mono {env : Env} {σ : L2.St} (m : Mono K H φ H' φ') (r : RE K H φ env σ) : RE K H' φ' env σ :=
  ⟨r.len, fun i d h => let ⟨v, e, q⟩ := r.get i d h; ⟨v, e, q.mono m⟩⟩
/-- an object that stays where it is -/
theorem RO.stay {o : O} {a : Addr} (m : Mono K H φ H' φ') (s : ∀ ho, H a = some ho → H' a = some ho) (r : RO P w K H φ o a) : RO P w K H' φ' o a := by
  cases r with
  | lst h r => exact .lst (s _ h) (r.mono m)
  | dK h r => exact .dK (s _ h) (r.mono m)
  | dT h r => exact .dT (s _ h) (r.mono m)
  | sT h t e => exact .sT (s _ h) (fun p hp => m.sq _ _ (t p hp)) e
  | sI h q e nd => exact .sI (s _ h) q e nd
theorem RO.there {o : O} {a : Addr} (r : RO P w K H φ o a) : ∃ ho, H a = some ho := by
  cases r with
  | lst h r => exact ⟨_, h⟩
  | dK h r => exact ⟨_, h⟩
  | dT h r => exact ⟨_, h⟩
  | sT h t e => exact ⟨_, h⟩
  | sI h q e nd => exact ⟨_, h⟩
/-- a store's object is no tuple and nothing frozen -/
theorem RO.notT {o : O} {a : Addr} (r : RO P w K H φ o a) (xs : List V) : H a ≠ some (.tup xs) := by
  cases r with
  | lst h r => rw [h]; intro z; cases z
  | dK h r => rw [h]; intro z; cases z
  | dT h r => rw [h]; intro z; cases z
  | sT h t e => rw [h]; intro z; cases z
  | sI h q e nd => rw [h]; intro z; cases z
theorem RO.notF {o : O} {a : Addr} (r : RO P w K H φ o a) (ob : Obj) (u : HO) : H a ≠ some (.frz ob u) := by
  cases r with
  | lst h r => rw [h]; intro z; cases z
  | dK h r => rw [h]; intro z; cases z
  | dT h r => rw [h]; intro z; cases z
  | sT h t e => rw [h]; intro z; cases z
  | sI h q e nd => rw [h]; intro z; cases z
theorem ROs.stay : ∀ {os : List O} {as : List Addr}, Mono K H φ H' φ' → (∀ a ∈ as, ∀ ho, H a = some ho → H' a = some ho) → ROs P w K H φ os as → ROs P w K H' φ' os as
  | _, _, _, _, .nil => .nil
  | _, _, m, s, .cons h t => .cons (h.stay m (s _ (by simp))) (ROs.stay m (fun a ha => s a (List.mem_cons_of_mem _ ha)) t)
theorem ROs.length : ∀ {os : List O} {as : List Addr}, ROs P w K H φ os as → os.length = as.length
  | _, _, .nil => rfl
  | _, _, .cons _ t => congrArg (· + 1) (ROs.length t)
theorem ROs.get : ∀ {os : List O} {as : List Addr} {n : Nat} {a : Addr}, ROs P w K H φ os as → as[n]? = some a → ∃ o, os[n]? = some o ∧ RO P w K H φ o a
  | _, _, _, _, .nil, h => by simp at h
  | _, _, 0, _, .cons h _, e => by simp at e; subst e; exact ⟨_, rfl, h⟩
  | _, _, n + 1, _, .cons _ t, e => by
    obtain ⟨o, h1, h2⟩ := ROs.get (n := n) t (by simpa using e)
    exact ⟨o, by simpa using h1, h2⟩
theorem ROs.get' : ∀ {os : List O} {as : List Addr} {n : Nat} {o : O}, ROs P w K H φ os as → os[n]? = some o → ∃ a, as[n]? = some a ∧ RO P w K H φ o a
  | _, _, _, _, .nil, h => by simp at h
  | _, _, 0, _, .cons h _, e => by simp at e; subst e; exact ⟨_, rfl, h⟩
  | _, _, n + 1, _, .cons _ t, e => by
    obtain ⟨o, h1, h2⟩ := ROs.get' (n := n) t (by simpa using e)
    exact ⟨o, by simpa using h1, h2⟩
theorem ROs.append : ∀ {os ps : List O} {as bs : List Addr}, ROs P w K H φ os as → ROs P w K H φ ps bs → ROs P w K H φ (os ++ ps) (as ++ bs)
  | _, _, _, _, .nil, s => s
  | _, _, _, _, .cons h t, s => .cons h (ROs.append t s)
theorem ROs.take : ∀ {os : List O} {as : List Addr} (n : Nat), ROs P w K H φ os as → ROs P w K H φ (os.take n) (as.take n)
  | _, _, 0, _ => by simp; exact .nil
  | _, _, _ + 1, .nil => .nil
  | _, _, n + 1, .cons h t => .cons h (ROs.take n t)
theorem RDs.length : ∀ {ds : List D} {vs : List V}, RDs K H φ ds vs → ds.length = vs.length
  | _, _, .nil => rfl
  | _, _, .cons _ t => congrArg (· + 1) (RDs.length t)
theorem RDs.get : ∀ {ds : List D} {vs : List V} {i : Nat} {d : D}, RDs K H φ ds vs → ds[i]? = some d → ∃ v, vs[i]? = some v ∧ RD K H φ d v
  | _, _, _, _, .nil, h => by simp at h
  | _, _, 0, _, .cons h _, e => by simp at e; subst e; exact ⟨_, rfl, h⟩
  | _, _, n + 1, _, .cons _ t, e => by
    obtain ⟨o, h1, h2⟩ := RDs.get (i := n) t (by simpa using e)
    exact ⟨o, by simpa using h1, h2⟩
theorem RDs.get' : ∀ {ds : List D} {vs : List V} {i : Nat} {v : V}, RDs K H φ ds vs → vs[i]? = some v → ∃ d, ds[i]? = some d ∧ RD K H φ d v
  | _, _, _, _, .nil, h => by simp at h
  | _, _, 0, _, .cons h _, e => by simp at e; subst e; exact ⟨_, rfl, h⟩
  | _, _, n + 1, _, .cons _ t, e => by
    obtain ⟨o, h1, h2⟩ := RDs.get' (i := n) t (by simpa using e)
    exact ⟨o, by simpa using h1, h2⟩
theorem RDs.append : ∀ {ds es : List D} {vs ws : List V}, RDs K H φ ds vs → RDs K H φ es ws → RDs K H φ (ds ++ es) (vs ++ ws)
  | _, _, _, _, .nil, s => s
  | _, _, _, _, .cons h t, s => .cons h (RDs.append t s)
theorem RDs.take : ∀ {ds : List D} {vs : List V} (n : Nat), RDs K H φ ds vs → RDs K H φ (ds.take n) (vs.take n)
  | _, _, 0, _ => by simp; exact .nil
  | _, _, _ + 1, .nil => .nil
  | _, _, n + 1, .cons h t => .cons h (RDs.take n t)
theorem RDs.drop : ∀ {ds : List D} {vs : List V} (n : Nat), RDs K H φ ds vs → RDs K H φ (ds.drop n) (vs.drop n)
  | _, _, 0, r => r
  | _, _, _ + 1, .nil => .nil
  | _, _, n + 1, .cons _ t => RDs.drop n t
theorem RDs.set {d : D} {v : V} (r : RD K H φ d v) : ∀ {ds : List D} {vs : List V} (i : Nat), RDs K H φ ds vs → RDs K H φ (ds.set i d) (vs.set i v)
  | _, _, _, .nil => .nil
  | _, _, 0, .cons _ t => .cons r t
  | _, _, i + 1, .cons h t => .cons h (RDs.set r i t)
theorem RDs.reverse : ∀ {ds : List D} {vs : List V}, RDs K H φ ds vs → RDs K H φ ds.reverse vs.reverse
  | _, _, .nil => .nil
  | _, _, .cons h t => by rw [List.reverse_cons, List.reverse_cons]; exact (RDs.reverse t).append (.cons h .nil)
theorem RDs.eraseIdx : ∀ {ds : List D} {vs : List V} (n : Nat), RDs K H φ ds vs → RDs K H φ (ds.eraseIdx n) (vs.eraseIdx n)
  | _, _, _, .nil => .nil
  | _, _, 0, .cons _ t => t
  | _, _, n + 1, .cons h t => .cons h (RDs.eraseIdx n t)
theorem RDs.dropLast {ds : List D} {vs : List V} (r : RDs K H φ ds vs) : RDs K H φ ds.dropLast vs.dropLast := by
  rw [List.dropLast_eq_take, List.dropLast_eq_take, r.length]; exact r.take _

/-- the tracked object at a store's address -/
theorem RS.at_ {st : Store} (r : RS P w K H φ st) {n : Nat} {o : O} (h : st[n]? = some o) : ∃ a, φ[n]? = some a ∧ RO P w K H φ o a := r.os.get' h
theorem RS.of_ref {st : Store} (r : RS P w K H φ st) {n : Nat} {v : V} (h : RD K H φ (.ref n) v) : ∃ a o, v = .ref a ∧ φ[n]? = some a ∧ st[n]? = some o ∧ RO P w K H φ o a := by
  cases h with
  | ref h => obtain ⟨o, e, q⟩ := r.os.get h; exact ⟨_, o, rfl, h, e, q⟩
theorem RS.len {st : Store} (r : RS P w K H φ st) : st.length = φ.length := r.os.length
/-- a step that leaves the store's objects -/
theorem RS.keep {st : Store} (r : RS P w K H φ st) (m : Mono K H φ H' φ) (s : ∀ a ∈ φ, ∀ ho, H a = some ho → H' a = some ho) : RS P w K H' φ st := ⟨r.nd, r.os.stay m s⟩
theorem RS.mem {st : Store} (r : RS P w K H φ st) {a : Addr} (h : a ∈ φ) : ∃ (n : Nat) (o : O), φ[n]? = some a ∧ st[n]? = some o ∧ RO P w K H φ o a := by
  obtain ⟨i, hi, e⟩ := List.getElem_of_mem h
  have e' : φ[i]? = some a := by rw [List.getElem?_eq_getElem hi, e]
  obtain ⟨o, q, z⟩ := r.os.get e'
  exact ⟨i, o, e', q, z⟩
theorem RS.notin {st : Store} (r : RS P w K H φ st) {a : Addr} (h : H a = none) : a ∉ φ := fun m => by
  obtain ⟨_, _, _, _, z⟩ := r.mem m
  obtain ⟨ho, q⟩ := z.there
  rw [h] at q; cases q
end

/-- a new address -/
theorem Ext.new {H : Hp} {φ : List Addr} {p : Addr} {o : HO} (h : H p = none) : Ext H φ (upd H p o) φ :=
  ⟨⟨[], by simp, by simp⟩, fun a xs q => by rw [upd_ne (ne_of_none q h)]; exact q, fun a o u q => by rw [upd_ne (ne_of_none q h)]; exact q, fun a o q _ => by rw [upd_ne (ne_of_none q h)]; exact q, fun a o q => ⟨o, by rw [upd_ne (ne_of_none q h)]; exact q⟩⟩
end Fx

set_option Elab.async false
set_option linter.all false
set_option maxRecDepth 100000
set_option maxHeartbeats 4000000
set_option autoImplicit false
/-! Fx, part B: readings from functions; expressions. -/
namespace Fx
open PySem PySem.Spec PyProof.Rows L2

/-- the program, the world, the written part, the module's names -/
structure Md where
  P : Program
  w : World
  K : PySem.W.Frag
  mg : Str → Option Value
abbrev _root_.L2.Cx.md (X : Cx) : Md := ⟨X.prog, X.w, X.K, X.mg⟩

/-- a result's value -/
def RR (P : Program) (w : World) (K : PySem.W.Frag) (H0 H : Hp) (φ : List Addr) : R → V → Prop
  | .v d, v => RD K H φ d v
  | .o x, v => ∃ a, v = .ref a ∧ RO P w K H φ x a ∧ a ∉ φ ∧ H0 a = none
/-- an exception -/
def RX (mg : Str → Option Value) (K : PySem.W.Frag) (H : Hp) (φ : List Addr) (e : Ex) (c : Value) (d : Option Addr) : Prop :=
  ∃ C, mg e.cls = some (.ref C) ∧ c = .ref C ∧ (e.fs = [] ∨ ∃ dx kvs, d = some dx ∧ H dx = some (.xd kvs) ∧ RKs K H φ e.fs kvs)

section
variable {P : Program} {w : World} {K : PySem.W.Frag} {H0 H H' : Hp} {φ φ' : List Addr}
theorem RR.mono {r : R} {v : V} (h : RR P w K H0 H φ r v) (e : Ext H φ H' φ') : RR P w K H0 H' φ' r v := by
  cases r with
  | v d => exact RD.mono e.mono h
  | o x =>
    obtain ⟨a, rfl, hx, n, z⟩ := h
    obtain ⟨ho, q⟩ := hx.there
    exact ⟨a, rfl, hx.stay e.mono (fun u hu => e.keep a u hu n), e.notin q n, z⟩
theorem RR.from_ {H1 : Hp} {φ0 φ1 : List Addr} {r : R} {v : V} (h : RR P w K H1 H φ r v) (e : Ext H0 φ0 H1 φ1) : RR P w K H0 H φ r v := by
  cases r with
  | v d => exact h
  | o x =>
    obtain ⟨a, rfl, hx, n, z⟩ := h
    exact ⟨a, rfl, hx, n, e.none_of z⟩
end

/-- what is wanted behind a step that gives o -/
def Post {α : Type} (M : Md) (W : WX) (H : Hp) (φ : List Addr) (σ : L2.St) (o : Out α) (S : α → Hp → List Addr → Store → Prop) : Prop :=
  match o with
  | .ok a st' => ∀ H' φ', Ext H φ H' φ' → RS M.P M.w M.K H' φ' st' → S a H' φ' st'
  | .exc e st' => ∀ H' φ' c d, Ext H φ H' φ' → RS M.P M.w M.K H' φ' st' → RX M.mg M.K H' φ' e c d → W c d σ H'
  | .stuck => False
section
variable {α β : Type} {M : Md} {W : WX} {H H1 : Hp} {φ φ1 : List Addr} {σ : L2.St} {o : Out α} {S S' : α → Hp → List Addr → Store → Prop}
theorem Post.rebase (h : Post M W H φ σ o S) (e : Ext H φ H1 φ1) : Post M W H1 φ1 σ o S := by
  cases o with
  | ok a st => exact fun H' φ' e' s => h H' φ' (e.trans e') s
  | exc x st => exact fun H' φ' c d e' s r => h H' φ' c d (e.trans e') s r
  | stuck => exact h
theorem Post.mono (h : Post M W H φ σ o S) (m : ∀ a H' φ' st', Ext H φ H' φ' → RS M.P M.w M.K H' φ' st' → S a H' φ' st' → S' a H' φ' st') : Post M W H φ σ o S' := by
  cases o with
  | ok a st => exact fun H' φ' e s => m a H' φ' st e s (h H' φ' e s)
  | exc x st => exact h
  | stuck => exact h
theorem Post.bind {k : α → Store → Out β} {S : β → Hp → List Addr → Store → Prop} (h : Post M W H φ σ (o.bind k) S) : Post M W H φ σ o (fun a H1 φ1 st1 => Post M W H1 φ1 σ (k a st1) S) := by
  cases o with
  | ok a st => exact fun H' φ' e _ => Post.rebase (o := k a st) h e
  | exc x st => exact h
  | stuck => exact h
/-- the base as it was -/
theorem Post.bind0 {k : α → Store → Out β} {S : β → Hp → List Addr → Store → Prop} (h : Post M W H φ σ (o.bind k) S) : Post M W H φ σ o (fun a _ _ st1 => Post M W H φ σ (k a st1) S) := by
  cases o with
  | ok a st => exact fun H' φ' e _ => h
  | exc x st => exact h
  | stuck => exact h
end
/-- .. of an expression -/
def PostE (M : Md) (W : WX) (H : Hp) (φ : List Addr) (σ : L2.St) (o : Out R) (Q : VK) : Prop :=
  Post M W H φ σ o fun r H' φ' _ => ∀ v, RR M.P M.w M.K H H' φ' r v → Q v H'
def PostB (M : Md) (W : WX) (H : Hp) (φ : List Addr) (σ : L2.St) (o : Out Bool) (Q : Bool → Hp → Prop) : Prop := Post M W H φ σ o fun b H' _ _ => Q b H'
def PostA (M : Md) (W : WX) (H : Hp) (φ : List Addr) (σ : L2.St) (o : Out (List D)) (Q : List V → Hp → Prop) : Prop :=
  Post M W H φ σ o fun ds H' φ' _ => ∀ vs, RDs M.K H' φ' ds vs → Q vs H'

section
variable {α : Type} {M : Md} {W : WX} {H H1 : Hp} {φ φ1 : List Addr} {σ : L2.St}
theorem PostE.rebase {o : Out R} {Q : VK} (h : PostE M W H φ σ o Q) (e : Ext H φ H1 φ1) : PostE M W H1 φ1 σ o Q :=
  (Post.rebase h e).mono fun _ _ _ _ _ _ q v r => q v (r.from_ e)
theorem PostE.bind {o : Out α} {k : α → Store → Out R} {Q : VK} (h : PostE M W H φ σ (o.bind k) Q) : Post M W H φ σ o (fun a H1 φ1 st1 => PostE M W H1 φ1 σ (k a st1) Q) := by
  cases o with
  | ok a st => exact fun H' φ' e _ => PostE.rebase (o := k a st) h e
  | exc x st => exact h
  | stuck => exact h
theorem PostE.bind0 {o : Out α} {k : α → Store → Out R} {Q : VK} (h : PostE M W H φ σ (o.bind k) Q) : Post M W H φ σ o (fun a _ _ st1 => PostE M W H φ σ (k a st1) Q) := Post.bind0 h
theorem PostB.bind {o : Out α} {k : α → Store → Out Bool} {Q : Bool → Hp → Prop} (h : PostB M W H φ σ (o.bind k) Q) : Post M W H φ σ o (fun a H1 φ1 st1 => PostB M W H1 φ1 σ (k a st1) Q) := Post.bind h
theorem PostA.bind {o : Out α} {k : α → Store → Out (List D)} {Q : List V → Hp → Prop} (h : PostA M W H φ σ (o.bind k) Q) : Post M W H φ σ o (fun a H1 φ1 st1 => PostA M W H1 φ1 σ (k a st1) Q) := Post.bind h
/-- a value, the heap as it is -/
theorem PostE.val {r : R} {st : Store} {Q : VK} {v : V} (h : PostE M W H φ σ (.ok r st) Q) (s : RS M.P M.w M.K H φ st) (q : RR M.P M.w M.K H H φ r v) : Q v H := h H φ Ext.refl s v q
/-- a new object -/
theorem RS.new {P : Program} {w : World} {K : PySem.W.Frag} {st : Store} {p : Addr} {ho : HO} (s : RS P w K H φ st) (h : H p = none) : RS P w K (upd H p ho) φ st :=
  s.keep (Ext.new h).mono (fun a _ u hu => by rw [upd_ne (ne_of_none hu h)]; exact hu)
end
end Fx

set_option Elab.async false
set_option linter.all false
set_option maxRecDepth 100000
set_option maxHeartbeats 4000000
set_option autoImplicit false
/-! Fx, part C: expressions. -/
namespace Fx
open PySem PySem.Spec PyProof.Rows L2

abbrev FE := Env → Store → Out R
abbrev FB := Env → Store → Out Bool
abbrev FA := Env → Store → Out (List D)

/-- the state lies in the heap -/
structure At (M : Md) (σ : L2.St) (H : Hp) (env : Env) (st : Store) (φ : List Addr) : Prop where
  re : RE M.K H φ env σ
  rs : RS M.P M.w M.K H φ st
def tE (M : Md) (W : WX) (f : FE) : TE := fun σ H Q => ∃ env st φ, At M σ H env st φ ∧ PostE M W H φ σ (f env st) Q
def tB (M : Md) (W : WX) (f : FB) : TT := fun σ H Q => ∃ env st φ, At M σ H env st φ ∧ PostB M W H φ σ (f env st) Q
def tA (M : Md) (W : WX) (f : FA) : TA := fun σ H Q => ∃ env st φ, At M σ H env st φ ∧ PostA M W H φ σ (f env st) Q
/-- e does what f says -/
abbrev SE (X : Cx) (W : WX) (e : Expr) (f : FE) : Prop := PE X e (tE X.md W f)
abbrev SB (X : Cx) (W : WX) (e : Expr) (f : FB) : Prop := PT X e (tB X.md W f)
abbrev SBW (X : Cx) (W : WX) (e : Expr) (f : FB) : Prop := PW X e (tB X.md W f)
abbrev SA (X : Cx) (W : WX) (es : List Expr) (f : FA) : Prop := PA X es (tA X.md W f)

theorem pe_imp {X : Cx} {e : Expr} {t t' : TE} (h : PE X e t) (i : ∀ σ H Q, t' σ H Q → t σ H Q) : PE X e t' := ⟨fun pins s σ H Q I q => h.run pins s σ H Q I (i σ H Q q)⟩
theorem pt_imp {X : Cx} {e : Expr} {t t' : TT} (h : PT X e t) (i : ∀ σ H Q, t' σ H Q → t σ H Q) : PT X e t' := ⟨fun pins s σ H Q I q => h.run pins s σ H Q I (i σ H Q q)⟩
theorem pw_imp {X : Cx} {e : Expr} {t t' : TT} (h : PW X e t) (i : ∀ σ H Q, t' σ H Q → t σ H Q) : PW X e t' := ⟨fun wh pins s σ H Q I q => h.run wh pins s σ H Q I (i σ H Q q)⟩
theorem pa_imp {X : Cx} {e : List Expr} {t t' : TA} (h : PA X e t) (i : ∀ σ H Q, t' σ H Q → t σ H Q) : PA X e t' := ⟨fun pos pins s σ H Q I q => h.run pos pins s σ H Q I (i σ H Q q)⟩

section
variable {M : Md} {W : WX} {σ : L2.St} {H H1 : Hp} {env : Env} {st st1 : Store} {φ φ1 : List Addr}
theorem At.then (a : At M σ H env st φ) (e : Ext H φ H1 φ1) (s : RS M.P M.w M.K H1 φ1 st1) : At M σ H1 env st1 φ1 := ⟨a.re.mono e.mono, s⟩
/-- f, then k -/
theorem tE_seq {f : FE} {k : R → Store → Out R} {Q : VK} {G : V → Hp → Prop} (a : At M σ H env st φ) (h : PostE M W H φ σ ((f env st).bind k) Q)
    (g : ∀ r st1 H1 φ1 v, Ext H φ H1 φ1 → At M σ H1 env st1 φ1 → RR M.P M.w M.K H H1 φ1 r v → PostE M W H1 φ1 σ (k r st1) Q → G v H1) : tE M W f σ H G :=
  ⟨env, st, φ, a, (PostE.bind h).mono fun r H1 φ1 st1 e s q v rr => g r st1 H1 φ1 v e (a.then e s) rr q⟩
theorem tA_seq {f : FA} {k : List D → Store → Out R} {Q : VK} {G : List V → Hp → Prop} (a : At M σ H env st φ) (h : PostE M W H φ σ ((f env st).bind k) Q)
    (g : ∀ ds st1 H1 φ1 vs, Ext H φ H1 φ1 → At M σ H1 env st1 φ1 → RDs M.K H1 φ1 ds vs → PostE M W H1 φ1 σ (k ds st1) Q → G vs H1) : tA M W f σ H G :=
  ⟨env, st, φ, a, (PostE.bind h).mono fun ds H1 φ1 st1 e s q vs rr => g ds st1 H1 φ1 vs e (a.then e s) rr q⟩
theorem tB_seq {f : FB} {k : Bool → Store → Out R} {Q : VK} {G : Bool → Hp → Prop} (a : At M σ H env st φ) (h : PostE M W H φ σ ((f env st).bind k) Q)
    (g : ∀ b st1 H1 φ1, Ext H φ H1 φ1 → At M σ H1 env st1 φ1 → PostE M W H1 φ1 σ (k b st1) Q → G b H1) : tB M W f σ H G :=
  ⟨env, st, φ, a, (PostE.bind h).mono fun b H1 φ1 st1 e s q => g b st1 H1 φ1 e (a.then e s) q⟩
end

/-! ### names, constants -/
def fName (i : Nat) : FE := fun env st => match env[i]? with
  | some (some d) => .ok (.v d) st
  | _ => .stuck
def fC (d : D) : FE := fun _ st => .ok (.v d) st
section
variable {X : Cx} {W : WX}
theorem se_name {i : Nat} {x : Str} {pos : Pos} (hN : X.N[i]? = some x) (hv : Vis X.env.scope x) (hd : (x == ("__debug__" : Str)) = false := by decide) (hcd : (x == ("__classdict__" : Str)) = false := by decide) : SE X W (.Name x pos) (fName i) := by
  refine pe_imp (pe_var hN hv hd hcd) fun σ H Q ⟨env, st, φ, a, h⟩ => ?_
  unfold fName at h
  split at h
  · rename_i d e
    obtain ⟨v, e1, r⟩ := a.re.get i d e
    exact ⟨v, e1, h.val a.rs r⟩
  · exact h.elim
theorem se_const {e : Expr} {d : D} {v : V} (h : PE X e (tC v)) (r : ∀ H φ, RD X.K H φ d v) : SE X W e (fC d) :=
  pe_imp h fun σ H Q ⟨_, st, φ, a, h⟩ => PostE.val (r := .v d) h a.rs (r H φ)
theorem se_int {i : Int} {j : Nat} {pos : Pos} : SE X W (.Constant (.int i) j pos) (fC (.int i)) := se_const pe_int fun _ _ => .int i
theorem se_bl {b : Bool} {j : Nat} {pos : Pos} : SE X W (.Constant (.bool b) j pos) (fC (.bl b)) := se_const pe_bl fun _ _ => .bl b
theorem se_non {j : Nat} {pos : Pos} : SE X W (.Constant .none j pos) (fC .non) := se_const pe_non fun _ _ => .non
theorem se_str {x : Str} {j : Nat} {pos : Pos} : SE X W (.Constant (.str x) j pos) (fC (.str x)) := se_const pe_str fun _ _ => .str x
/-- a module's int -/
theorem se_glob {x : Str} {i : Int} {u : Value} {pos : Pos} (hg : Gl X x) (hm : X.mg x = some u) (r : RelV (.int i) u) (hd : (x == ("__debug__" : Str)) = false := by decide) : SE X W (.Name x pos) (fC (.int i)) := se_const (pe_glob hg hm r hd) fun _ _ => .int i
end

/-! ### argument lists; new objects are given a number -/
def alloc (r : R) (st : Store) : D × Store := match r with
  | .v d => (d, st)
  | .o x => (.ref st.length, st ++ [x])
@[simp] theorem alloc_v (d : D) (st : Store) : alloc (.v d) st = (d, st) := rfl
@[simp] theorem alloc_o (x : O) (st : Store) : alloc (.o x) st = (.ref st.length, st ++ [x]) := rfl
def fNil : FA := fun _ st => .ok [] st
def fCons (f : FE) (g : FA) : FA := fun env st => (f env st).bind fun r st1 => (g env (alloc r st1).2).bind fun ds st2 => .ok ((alloc r st1).1 :: ds) st2

theorem alloc_ok {P : Program} {w : World} {K : PySem.W.Frag} {H0 H : Hp} {φ0 φ : List Addr} {r : R} {v : V} {st : Store} (s : RS P w K H φ st) (h : RR P w K H0 H φ r v) (e : Ext H0 φ0 H φ) :
    ∃ φ', RS P w K H φ' (alloc r st).2 ∧ RD K H φ' (alloc r st).1 v ∧ Ext H0 φ0 H φ' ∧ Mono K H φ H φ' := by
  cases r with
  | v d => exact ⟨φ, s, h, e, ⟨fun _ _ h => h, fun _ _ h => h, fun _ _ h => h⟩⟩
  | o x =>
    obtain ⟨a, rfl, hx, n, z⟩ := h
    have m : Mono K H φ H (φ ++ [a]) := ⟨fun _ _ h => h, fun _ _ h => h, fun i b h => by rw [List.getElem?_append_left (List.getElem?_eq_some_iff.mp h).1]; exact h⟩
    refine ⟨φ ++ [a], ⟨?_, (s.os.stay m fun _ _ _ q => q).append (.cons (hx.stay m fun _ q => q) .nil)⟩, .ref ?_, ?_, m⟩
    · refine List.nodup_append.mpr ⟨s.nd, by simp, fun b hb c hc q => ?_⟩
      have : c = a := by simpa using hc
      subst this; subst q; exact n hb
    · have q : st.length = φ.length := s.len
      show (φ ++ [a])[st.length]? = some a
      rw [q]; simp
    · obtain ⟨ψ, rfl, q⟩ := e.pre
      refine ⟨⟨ψ ++ [a], by simp, fun b hb => ?_⟩, e.tup, e.frz, e.keep, e.trk⟩
      rcases List.mem_append.mp hb with y | y
      · exact q b y
      · have : b = a := by simpa using y
        subst this; exact z
section
variable {X : Cx} {W : WX} {e : Expr} {es : List Expr} {f : FE} {g : FA} {pos : Pos}
theorem sa_nil : SA X W [] fNil := pa_imp pa_nil fun σ H Q ⟨_, st, φ, a, h⟩ => h H φ Ext.refl a.rs [] .nil
theorem sa_cons (he : SE X W e f) (hr : SA X W es g) (hs : starEach (e :: es) X.env = (false, eval e X.env) :: starEach es X.env := by rfl) : SA X W (e :: es) (fCons f g) := by
  refine pa_imp (pa_cons he hr hs) fun σ H Q ⟨env, st, φ, a, h⟩ => ?_
  refine ⟨env, st, φ, a, (Post.bind0 h).mono fun r H1 φ1 st1 e1 s1 q1 v rv => ?_⟩
  obtain ⟨φ2, s2, r2, e2, m2⟩ := alloc_ok s1 rv e1
  have a2 : At X.md σ H1 env (alloc r st1).2 φ2 := ⟨a.re.mono e2.mono, s2⟩
  have q2 := Post.rebase q1 e2
  refine ⟨env, _, φ2, a2, (PostA.bind q2).mono fun ds H3 φ3 st3 e3 s3 q3 vs rvs => ?_⟩
  exact q3 H3 φ3 Ext.refl s3 (v :: vs) (.cons (r2.mono e3.mono) rvs)
end
end Fx

set_option Elab.async false
set_option linter.all false
set_option maxRecDepth 100000
set_option maxHeartbeats 4000000
set_option autoImplicit false
/-! Fx, part D: displays, operators, comparisons, tests. -/
namespace Fx
open PySem PySem.Spec PyProof.Rows L2

theorem line_of {n : Nat} (h : n ≤ 1000000) : n ≤ sizeLine := by rw [sizeLine_eq]; omega
theorem line_of' {n : Nat} (h : n < 1000000) : n < sizeLine := by rw [sizeLine_eq]; omega

/-! ### new objects in a reading -/
section
variable {M : Md} {W : WX} {σ : L2.St} {H : Hp} {φ : List Addr} {st : Store} {Q : VK}
theorem new_tup {xs : List D} {vs : List V} {p : Addr} (s : RS M.P M.w M.K H φ st) (r : RDs M.K H φ xs vs) (h : PostE M W H φ σ (.ok (.v (.tup xs)) st) Q) (hp : H p = none) : Q (.ref p) (upd H p (.tup vs)) :=
  h _ _ (Ext.new hp) (s.new hp) _ (RD.tup upd_same (r.mono (Ext.new hp).mono))
theorem new_lst {xs : List D} {vs : List V} {p : Addr} (s : RS M.P M.w M.K H φ st) (r : RDs M.K H φ xs vs) (h : PostE M W H φ σ (.ok (.o (.lst xs)) st) Q) (hp : H p = none) : Q (.ref p) (upd H p (.lst vs)) :=
  h _ _ (Ext.new hp) (s.new hp) _ ⟨p, rfl, .lst upd_same (r.mono (Ext.new hp).mono), s.notin hp, hp⟩
theorem of_val {d : D} {v : V} (s : RS M.P M.w M.K H φ st) (r : RD M.K H φ d v) (h : PostE M W H φ σ (.ok (.v d) st) Q) : Q v H := PostE.val (r := .v d) h s r
end

/-! ### displays -/
def fTup (g : FA) : FE := fun env st => (g env st).bind fun ds st1 => if ds.length ≤ 1000000 then .ok (.v (.tup ds)) st1 else .stuck
def fLst (g : FA) : FE := fun env st => (g env st).bind fun ds st1 => if ds.length ≤ 1000000 then .ok (.o (.lst ds)) st1 else .stuck
def fDK : FE := fun _ st => .ok (.o (.dK [])) st
def fDT : FE := fun _ st => .ok (.o (.dT [])) st
section
variable {X : Cx} {W : WX} {es : List Expr} {g : FA} {pos : Pos}
theorem se_tup {k : Nat} (h : SA X W es g) : SE X W (.Tuple es k pos) (fTup g) := by
  refine pe_imp (pe_tup h) fun σ H Q ⟨env, st, φ, a, q⟩ => ?_
  refine tA_seq a q fun ds st1 H1 φ1 vs e1 a1 rv q1 => ?_
  split at q1
  · rename_i hl
    exact ⟨by rw [← rv.length]; exact line_of hl, fun p hp => new_tup a1.rs rv q1 hp⟩
  · exact q1.elim
theorem se_lst (h : SA X W es g) : SE X W (.List es pos) (fLst g) := by
  refine pe_imp (pe_lst h) fun σ H Q ⟨env, st, φ, a, q⟩ => ?_
  refine tA_seq a q fun ds st1 H1 φ1 vs e1 a1 rv q1 => ?_
  split at q1
  · rename_i hl
    exact ⟨by rw [← rv.length]; exact line_of hl, fun p hp => new_lst a1.rs rv q1 hp⟩
  · exact q1.elim
theorem se_dK : SE X W (.Dict [] [] pos) fDK := by
  refine pe_imp pe_dnewK fun σ H Q ⟨env, st, φ, a, q⟩ => fun p hp => ?_
  exact q _ _ (Ext.new hp) (a.rs.new hp) _ ⟨p, rfl, .dK upd_same .nil, a.rs.notin hp, hp⟩
theorem se_dT : SE X W (.Dict [] [] pos) fDT := by
  refine pe_imp pe_dnewT fun σ H Q ⟨env, st, φ, a, q⟩ => fun p hp => ?_
  exact q _ _ (Ext.new hp) (a.rs.new hp) _ ⟨p, rfl, .dT upd_same .nil, a.rs.notin hp, hp⟩
end

/-! ### what lies behind a value -/
def seqL (st : Store) : R → Option (List D)
  | .o (.lst xs) => some xs
  | .v (.ref n) => match st[n]? with
    | some (.lst xs) => some xs
    | _ => none
  | .v (.lz xs) => some xs
  | _ => none
/-- a list that can be written -/
def seqM (st : Store) : R → Option (List D)
  | .o (.lst xs) => some xs
  | .v (.ref n) => match st[n]? with
    | some (.lst xs) => some xs
    | _ => none
  | _ => none
@[simp] theorem seqL_o (st : Store) (xs : List D) : seqL st (.o (.lst xs)) = some xs := rfl
@[simp] theorem seqM_o (st : Store) (xs : List D) : seqM st (.o (.lst xs)) = some xs := rfl
@[simp] theorem seqL_lz (st : Store) (xs : List D) : seqL st (.v (.lz xs)) = some xs := rfl
@[simp] theorem seqL_tup (st : Store) (xs : List D) : seqL st (.v (.tup xs)) = none := rfl
@[simp] theorem seqM_tup (st : Store) (xs : List D) : seqM st (.v (.tup xs)) = none := rfl
@[simp] theorem seqM_str (st : Store) (xs : Str) : seqM st (.v (.str xs)) = none := rfl
@[simp] theorem seqL_str (st : Store) (xs : Str) : seqL st (.v (.str xs)) = none := rfl
theorem seqL_ref {st : Store} {n : Nat} {xs : List D} (h : st[n]? = some (.lst xs)) : seqL st (.v (.ref n)) = some xs := by simp [seqL, h]
theorem seqM_ref {st : Store} {n : Nat} {xs : List D} (h : st[n]? = some (.lst xs)) : seqM st (.v (.ref n)) = some xs := by simp [seqM, h]
section
variable {P : Program} {w : World} {K : PySem.W.Frag} {H0 H : Hp} {φ : List Addr} {st : Store} {r : R} {v : V} {xs : List D}
theorem seqM_ok (s : RS P w K H φ st) (h : RR P w K H0 H φ r v) (e : seqM st r = some xs) : ∃ a vs, v = .ref a ∧ H a = some (.lst vs) ∧ RDs K H φ xs vs := by
  cases r with
  | o x =>
    obtain ⟨a, rfl, hx, _, _⟩ := h
    cases hx with
    | lst q t => cases e; exact ⟨a, _, rfl, q, t⟩
    | _ => cases e
  | v d =>
    cases d with
    | ref n =>
      obtain ⟨a, o, rfl, h1, h2, h3⟩ := s.of_ref h
      simp only [seqM, h2] at e
      cases h3 with
      | lst q t => cases e; exact ⟨a, _, rfl, q, t⟩
      | _ => cases e
    | _ => cases e
theorem seqL_ok (s : RS P w K H φ st) (h : RR P w K H0 H φ r v) (e : seqL st r = some xs) : ∃ a vs, v = .ref a ∧ SqL K H a vs ∧ RDs K H φ xs vs := by
  cases r with
  | o x =>
    obtain ⟨a, vs, e1, e2, e3⟩ := seqM_ok s h (by cases x <;> first | exact e | cases e)
    exact ⟨a, vs, e1, SqL.of e2, e3⟩
  | v d =>
    cases d with
    | ref n =>
      obtain ⟨a, vs, e1, e2, e3⟩ := seqM_ok (r := .v (.ref n)) s h e
      exact ⟨a, vs, e1, SqL.of e2, e3⟩
    | lz ys =>
      cases e
      cases h with
      | lz q t => exact ⟨_, _, rfl, q.sq, t⟩
    | _ => cases e
theorem tup_ok (h : RR P w K H0 H φ (.v (.tup xs)) v) : ∃ a vs, v = .ref a ∧ H a = some (.tup vs) ∧ RDs K H φ xs vs := by
  cases h with
  | tup q t => exact ⟨_, _, rfl, q, t⟩
theorem int_ok {i : Int} (h : RR P w K H0 H φ (.v (.int i)) v) : v = .int i := by cases h; rfl
theorem bl_ok {i : Bool} (h : RR P w K H0 H φ (.v (.bl i)) v) : v = .bl i := by cases h; rfl
theorem str_ok {i : Str} (h : RR P w K H0 H φ (.v (.str i)) v) : v = .str i := by cases h; rfl
theorem non_ok (h : RR P w K H0 H φ (.v .non) v) : v = .non := by cases h; rfl
end

/-! ### operators -/
abbrev F2 := R → R → Store → Out R
def Op2 (X : Cx) (r : R2) (g : F2) : Prop := ∀ (W : WX) (σ : L2.St) (H H0 H0' : Hp) (φ : List Addr) (st : Store) (ra rb : R) (x y : V) (Q : VK),
  RS X.prog X.w X.K H φ st → RR X.prog X.w X.K H0 H φ ra x → RR X.prog X.w X.K H0' H φ rb y → PostE X.md W H φ σ (g ra rb st) Q → r x y H Q
def fBin (g : F2) (fa fb : FE) : FE := fun env st => (fa env st).bind fun ra st1 => (fb env st1).bind fun rb st2 => g ra rb st2
section
variable {X : Cx} {W : WX} {a b : Expr} {fa fb : FE} {pos : Pos} {g : F2} {r : R2}
theorem tOp_of (hg : Op2 X r g) {σ : L2.St} {H : Hp} {Q : VK} (h : tE X.md W (fBin g fa fb) σ H Q) : tOp r (tE X.md W fa) (tE X.md W fb) σ H Q := by
  obtain ⟨env, st, φ, a, q⟩ := h
  refine tE_seq a q fun ra st1 H1 φ1 x e1 a1 rx q1 => ?_
  refine tE_seq a1 q1 fun rb st2 H2 φ2 y e2 a2 ry q2 => ?_
  exact hg W σ H2 H H1 φ2 st2 ra rb x y Q a2.rs (rx.mono e2) ry q2
theorem se_op {op : Operator} (ho : OpR X (binaryOp op) r) (hg : Op2 X r g) (ha : SE X W a fa) (hb : SE X W b fb) : SE X W (.BinOp a op b pos) (fBin g fa fb) := pe_imp (pe_op ho ha hb) fun _ _ _ h => tOp_of hg h
theorem se_cmp {op : CmpOp} (ho : OpR X (compareOp op) r) (hg : Op2 X r g) (hm : behindInMarks op b = false) (ha : SE X W a fa) (hb : SE X W b fb) : SE X W (.Compare a [op] [b] pos) (fBin g fa fb) := pe_imp (pe_cmpR ho ha hb hm) fun _ _ _ h => tOp_of hg h
end

def gAdd : F2 := fun ra rb st => match ra, rb with
  | .v (.int i), .v (.int j) => .ok (.v (.int (i + j))) st
  | .v (.str x), .v (.str y) => if x.length + y.length ≤ 1000000 then .ok (.v (.str (x ++ y))) st else .stuck
  | .v (.tup xs), .v (.tup ys) => if xs.length + ys.length ≤ 1000000 then .ok (.v (.tup (xs ++ ys))) st else .stuck
  | _, _ => match seqM st ra, seqM st rb with
    | some xs, some ys => if xs.length + ys.length ≤ 1000000 then .ok (.o (.lst (xs ++ ys))) st else .stuck
    | _, _ => .stuck
def rAdd4 (K : PySem.W.Frag) : R2 := fun x y H Q => rI0 (fun i j => .int (i + j)) x y H Q ∨ (fun x y H Q => ∃ i j, x = .str i ∧ y = .str j ∧ i.length + j.length ≤ sizeLine ∧ Q (.str (i ++ j)) H : R2) x y H Q ∨ rCatA K x y H Q ∨ rCat x y H Q
theorem op_add4 {X : Cx} : OpR X (binaryOp .Add) (rAdd4 X.K) := OpR.or op_add (OpR.or op_add_str (OpR.or op_catA op_cat))
theorem op2_add {X : Cx} : Op2 X (rAdd4 X.K) gAdd := by
  intro W σ H H0 H0' φ st ra rb x y Q s rx ry h
  unfold gAdd at h
  split at h
  · rw [int_ok rx, int_ok ry]
    exact .inl ⟨_, _, rfl, rfl, of_val s (.int _) h⟩
  · rw [str_ok rx, str_ok ry]
    split at h
    · rename_i hl
      exact .inr (.inl ⟨_, _, rfl, rfl, line_of hl, of_val s (.str _) h⟩)
    · exact h.elim
  · split at h
    · rename_i xs ys hl
      obtain ⟨a, vs, rfl, q, t⟩ := tup_ok rx
      obtain ⟨b, ws, rfl, q', t'⟩ := tup_ok ry
      refine .inr (.inr (.inl ⟨a, b, vs, ws, rfl, rfl, SqT.of q, SqT.of q', by rw [← t.length, ← t'.length]; exact line_of hl, fun e => ?_, fun _ e => ?_, fun _ _ p hp => new_tup s (t.append t') h hp⟩))
      · subst e
        cases t
        exact of_val (M := X.md) s (.tup q' (by simpa using t')) (by simpa using h)
      · subst e
        cases t'
        exact of_val (M := X.md) s (.tup q (by simpa using t)) (by simpa using h)
    · exact h.elim
  · split at h
    · rename_i xs ys e1 e2
      split at h
      · rename_i hl
        obtain ⟨a, vs, rfl, q, t⟩ := seqM_ok s rx e1
        obtain ⟨b, ws, rfl, q', t'⟩ := seqM_ok s ry e2
        exact .inr (.inr (.inr ⟨a, b, vs, ws, rfl, rfl, q, q', by rw [← t.length, ← t'.length]; exact line_of hl, fun p hp => new_lst s (t.append t') h hp⟩))
      · exact h.elim
    · exact h.elim

/-- two ints -/
def gI (C : Int → Int → Prop) [∀ i j, Decidable (C i j)] (f : Int → Int → D) : F2 := fun ra rb st => match ra, rb with
  | .v (.int i), .v (.int j) => if C i j then .ok (.v (f i j)) st else .stuck
  | _, _ => .stuck
theorem op2_I {X : Cx} {C : Int → Int → Prop} [∀ i j, Decidable (C i j)] {C' : Int → Int → Prop} {f : Int → Int → D} {g : Int → Int → V} (hC : ∀ i j, C i j → C' i j) (hf : ∀ i j H φ, RD X.K H φ (f i j) (g i j)) : Op2 X (rI C' g) (gI C f) := by
  intro W σ H H0 H0' φ st ra rb x y Q s rx ry h
  unfold gI at h
  split at h
  · rw [int_ok rx, int_ok ry]
    split at h
    · rename_i c
      exact ⟨_, _, rfl, rfl, hC _ _ c, of_val s (hf _ _ _ _) h⟩
    · exact h.elim
  · exact h.elim
theorem op2_I0 {X : Cx} {f : Int → Int → D} {g : Int → Int → V} (hf : ∀ i j H φ, RD X.K H φ (f i j) (g i j)) : Op2 X (rI0 g) (gI (fun _ _ => True) f) := by
  intro W σ H H0 H0' φ st ra rb x y Q s rx ry h
  unfold gI at h
  split at h
  · rw [int_ok rx, int_ok ry]
    rw [if_pos trivial] at h
    exact ⟨_, _, rfl, rfl, of_val s (hf _ _ _ _) h⟩
  · exact h.elim
abbrev gSub : F2 := gI (fun _ _ => True) fun i j => .int (i - j)
abbrev gMod : F2 := gI (fun _ j => 0 < j) fun i j => .int (i % j)
abbrev gDiv : F2 := gI (fun _ j => 0 < j ∧ j < 1073741824) fun i j => .int (i / j)
abbrev gPow : F2 := gI (fun i j => 0 ≤ j ∧ j ≤ 1000000 ∧ i.natAbs < 2 ^ 64) fun i j => .int (i ^ j.toNat)
abbrev gShl : F2 := gI (fun i j => 0 ≤ j ∧ j ≤ 1000000 ∧ i.natAbs < 2 ^ 64) fun i j => .int (i * 2 ^ j.toNat)
abbrev gShr : F2 := gI (fun _ j => 0 ≤ j) fun i j => .int (i / 2 ^ j.toNat)
abbrev gAnd : F2 := gI (fun _ _ => True) fun i j => .int (Builtin.bitAnd i j)
theorem op2_sub {X : Cx} : Op2 X (rI0 fun i j => .int (i - j)) gSub := op2_I0 fun _ _ _ _ => .int _
theorem op2_mod {X : Cx} : Op2 X (rI (fun _ j => 0 < j) fun i j => .int (i % j)) gMod := op2_I (fun _ _ h => h) fun _ _ _ _ => .int _
theorem op2_div {X : Cx} : Op2 X (rI CDiv fun i j => .int (i / j)) gDiv := op2_I (fun _ _ h => h) fun _ _ _ _ => .int _
theorem op2_pow {X : Cx} : Op2 X (rI CPow fun i j => .int (i ^ j.toNat)) gPow := op2_I (fun _ _ h => h) fun _ _ _ _ => .int _
theorem op2_shl {X : Cx} : Op2 X (rI CPow fun i j => .int (i * 2 ^ j.toNat)) gShl := op2_I (fun _ _ h => h) fun _ _ _ _ => .int _
theorem op2_shr {X : Cx} : Op2 X (rI (fun _ j => 0 ≤ j) fun i j => .int (i / 2 ^ j.toNat)) gShr := op2_I (fun _ _ h => h) fun _ _ _ _ => .int _
theorem op2_and {X : Cx} : Op2 X (rI0 fun i j => .int (Builtin.bitAnd i j)) gAnd := op2_I0 fun _ _ _ _ => .int _

/-- times: one factor is small -/
def CMulX (i j : Int) : Prop := i.natAbs < 1000000000000000000 ∨ j.natAbs < 1000000000000000000
theorem CMulX.fits {i j : Int} (h : CMulX i j) : IntMulOk i j := by
  rcases h with h | h
  · exact IntMulOk.of_left (intBits_le_64 (by omega) (by omega))
  · exact IntMulOk.of_right (intBits_le_64 (by omega) (by omega))
theorem op_mulX {X : Cx} : OpR X (binaryOp .Mult) (rI CMulX fun i j => .int (i * j)) := opI fun _ _ _ _ _ _ _ hc q => mul_int q hc.fits
/-- times: two ints, one of them small; a list that often -/
def gMul : F2 := fun ra rb st => match ra, rb with
  | .v (.int i), .v (.int j) => if i.natAbs < 1000000000000000000 ∨ j.natAbs < 1000000000000000000 then .ok (.v (.int (i * j))) st else .stuck
  | _, .v (.int k) => match seqM st ra with
    | some xs => if 0 ≤ k ∧ k ≤ 1000000 ∧ xs.length * k.toNat ≤ 1000000 then .ok (.o (.lst (List.replicate k.toNat xs).flatten)) st else .stuck
    | _ => .stuck
  | _, _ => .stuck
theorem RDs.rep {K : PySem.W.Frag} {H : Hp} {φ : List Addr} {xs : List D} {vs : List V} (r : RDs K H φ xs vs) : ∀ n : Nat, RDs K H φ (List.replicate n xs).flatten (List.replicate n vs).flatten
  | 0 => .nil
  | n + 1 => by rw [List.replicate_succ, List.replicate_succ, List.flatten_cons, List.flatten_cons]; exact r.append (RDs.rep r n)
theorem op_mul2 {X : Cx} : OpR X (binaryOp .Mult) (fun x y H Q => rI CMulX (fun i j => .int (i * j)) x y H Q ∨ rRep x y H Q) := OpR.or op_mulX op_rep
theorem op2_mul {X : Cx} : Op2 X (fun x y H Q => rI CMulX (fun i j => .int (i * j)) x y H Q ∨ rRep x y H Q) gMul := by
  intro W σ H H0 H0' φ st ra rb x y Q s rx ry h
  unfold gMul at h
  split at h
  · rw [int_ok rx, int_ok ry]
    split at h
    · rename_i c
      exact .inl ⟨_, _, rfl, rfl, c, of_val s (.int _) h⟩
    · exact h.elim
  · rw [int_ok ry]
    split at h
    · rename_i xs e
      split at h
      · rename_i c
        obtain ⟨a, vs, rfl, q, t⟩ := seqM_ok s rx e
        obtain ⟨c1, c2, c3⟩ := c
        exact .inr ⟨a, _, vs, rfl, rfl, q, by omega, by omega, by rw [← t.length]; exact line_of c3, fun p hp => new_lst s (t.rep _) h hp⟩
      · exact h.elim
    · exact h.elim
  · exact h.elim

/-! ### comparisons of ints -/
abbrev gLt : F2 := gI (fun _ _ => True) fun i j => .bl (decide (i < j))
abbrev gLe : F2 := gI (fun _ _ => True) fun i j => .bl (decide (i ≤ j))
abbrev gGt : F2 := gI (fun _ _ => True) fun i j => .bl (decide (j < i))
abbrev gGe : F2 := gI (fun _ _ => True) fun i j => .bl (decide (j ≤ i))
theorem op2_lt {X : Cx} : Op2 X (rI0 fun i j => .bl (decide (i < j))) gLt := op2_I0 fun _ _ _ _ => .bl _
theorem op2_le {X : Cx} : Op2 X (rI0 fun i j => .bl (decide (i ≤ j))) gLe := op2_I0 fun _ _ _ _ => .bl _
theorem op2_gt {X : Cx} : Op2 X (rI0 fun i j => .bl (decide (j < i))) gGt := op2_I0 fun _ _ _ _ => .bl _
theorem op2_ge {X : Cx} : Op2 X (rI0 fun i j => .bl (decide (j ≤ i))) gGe := op2_I0 fun _ _ _ _ => .bl _

/-! ### as data of the model -/
def D.toP (st : Store) : Nat → D → Option PyData
  | 0, _ => none
  | _ + 1, .non => some .none
  | _ + 1, .bl b => some (.bool b)
  | _ + 1, .int i => some (.int i)
  | _ + 1, .str x => if PyData.strOk x = true then some (.str x) else none
  | n + 1, .tup xs => (xs.mapM (D.toP st n)).map .tuple
  | n + 1, .lz xs => (xs.mapM (D.toP st n)).map .list
  | n + 1, .ref k => match st[k]? with
    | some (.lst xs) => (xs.mapM (D.toP st n)).map .list
    | _ => none
def R.toP (st : Store) (n : Nat) : R → Option PyData
  | .v d => d.toP st n
  | .o (.lst xs) => (xs.mapM (D.toP st n)).map .list
  | _ => none

section
variable {P : Program} {w : World} {K : PySem.W.Frag} {H : Hp} {φ : List Addr} {st : Store}
theorem toP_ok (s : RS P w K H φ st) : ∀ (n : Nat) (d : D) (v : V) (p : PyData), RD K H φ d v → d.toP st n = some p → Dp K H v p ∧ p.canLay0 = true ∧ p.depth ≤ n
  | 0, _, _, _, _, e => by cases e
  | n + 1, d, v, p, r, e => by
    have all : ∀ (xs : List D) (vs : List V) (ps : List PyData), RDs K H φ xs vs → xs.mapM (D.toP st n) = some ps → DpAll K H vs ps ∧ PyData.canLayAll0 ps = true ∧ PyData.depthAll ps ≤ n := by
      intro xs
      induction xs with
      | nil =>
        intro vs ps r e
        cases r
        have e' : ps = [] := by simpa using e.symm
        subst e'
        exact ⟨.nil, by simp [PyData.canLayAll0], by simp [PyData.depthAll]⟩
      | cons d ds ih =>
        intro vs ps r e
        cases r with
        | cons h t =>
          rw [List.mapM_cons] at e
          cases e1 : d.toP st n with
          | none => rw [e1] at e; cases e
          | some p =>
            rw [e1] at e
            cases e2 : ds.mapM (D.toP st n) with
            | none => rw [e2] at e; cases e
            | some qs =>
              rw [e2] at e
              have e' : ps = p :: qs := by simpa using e.symm
              subst e'
              obtain ⟨h1, h2, h3⟩ := toP_ok s n d _ p h e1
              obtain ⟨t1, t2, t3⟩ := ih _ qs t e2
              exact ⟨.cons h1 t1, by simp [PyData.canLayAll0, h2, t2], by simp only [PyData.depthAll]; omega⟩
    cases r with
    | non => cases e; exact ⟨.non, by simp [PyData.canLay0], by simp [PyData.depth]⟩
    | bl b => cases e; exact ⟨.bl b, by simp [PyData.canLay0], by simp [PyData.depth]⟩
    | int b => cases e; exact ⟨.int b, by simp [PyData.canLay0], by simp [PyData.depth]⟩
    | str b =>
      simp only [D.toP] at e
      split at e
      · rename_i hb
        cases e; exact ⟨.str b, by simpa [PyData.canLay0] using hb, by simp [PyData.depth]⟩
      · cases e
    | tup q t =>
      rename_i a vs xs
      simp only [D.toP] at e
      cases e1 : xs.mapM (D.toP st n) with
      | none => rw [e1] at e; cases e
      | some ps =>
        rw [e1] at e; cases e
        obtain ⟨h1, h2, h3⟩ := all _ _ _ t e1
        exact ⟨.tup (SqT.of q) h1, by simpa [PyData.canLay0] using h2, by simp only [PyData.depth]; omega⟩
    | lz q t =>
      rename_i a vs xs
      simp only [D.toP] at e
      cases e1 : xs.mapM (D.toP st n) with
      | none => rw [e1] at e; cases e
      | some ps =>
        rw [e1] at e; cases e
        obtain ⟨h1, h2, h3⟩ := all _ _ _ t e1
        exact ⟨.lst q.sq h1, by simpa [PyData.canLay0] using h2, by simp only [PyData.depth]; omega⟩
    | ref q =>
      obtain ⟨o, e1, e2⟩ := s.os.get q
      simp only [D.toP, e1] at e
      cases e2 with
      | lst q' t =>
        rename_i xs vs
        simp only at e
        cases e3 : xs.mapM (D.toP st n) with
        | none => rw [e3] at e; cases e
        | some ps =>
          rw [e3] at e; cases e
          obtain ⟨h1, h2, h3⟩ := all _ _ _ t e3
          exact ⟨.lst (SqL.of q') h1, by simpa [PyData.canLay0] using h2, by simp only [PyData.depth]; omega⟩
      | _ => cases e
theorem toPs_ok (s : RS P w K H φ st) {n : Nat} : ∀ {xs : List D} {vs : List V} {ps : List PyData}, RDs K H φ xs vs → xs.mapM (D.toP st n) = some ps → DpAll K H vs ps ∧ PyData.canLayAll0 ps = true ∧ PyData.depthAll ps ≤ n := by
  intro xs
  induction xs with
  | nil =>
    intro vs ps r e
    cases r
    have e' : ps = [] := by simpa using e.symm
    subst e'
    exact ⟨.nil, by simp [PyData.canLayAll0], by simp [PyData.depthAll]⟩
  | cons d ds ih =>
    intro vs ps r e
    cases r with
    | cons h t =>
      rw [List.mapM_cons] at e
      cases e1 : d.toP st n with
      | none => rw [e1] at e; cases e
      | some p =>
        rw [e1] at e
        cases e2 : ds.mapM (D.toP st n) with
        | none => rw [e2] at e; cases e
        | some qs =>
          rw [e2] at e
          have e' : ps = p :: qs := by simpa using e.symm
          subst e'
          obtain ⟨h1, h2, h3⟩ := toP_ok s n d _ p h e1
          obtain ⟨t1, t2, t3⟩ := ih t e2
          exact ⟨.cons h1 t1, by simp [PyData.canLayAll0, h2, t2], by simp only [PyData.depthAll]; omega⟩
theorem rtoP_ok {H0 : Hp} {r : R} {v : V} {p : PyData} (s : RS P w K H φ st) {n : Nat} (h : RR P w K H0 H φ r v) (e : r.toP st n = some p) : Dp K H v p ∧ p.canLay0 = true ∧ p.depth ≤ n + 1 := by
  cases r with
  | v d => obtain ⟨h1, h2, h3⟩ := toP_ok s n d v p h e; exact ⟨h1, h2, by omega⟩
  | o x =>
    obtain ⟨a, rfl, hx, _, _⟩ := h
    cases hx with
    | lst q t =>
      rename_i xs vs
      simp only [R.toP] at e
      cases e3 : xs.mapM (D.toP st n) with
      | none => rw [e3] at e; cases e
      | some ps =>
        rw [e3] at e; cases e
        obtain ⟨h1, h2, h3⟩ := toPs_ok s t e3
        exact ⟨.lst (SqL.of q) h1, by simpa [PyData.canLay0] using h2, by simp only [PyData.depth]; omega⟩
    | _ => cases e
theorem shaped_of {p : PyData} (h : p.canLay0 = true) (d : p.depth ≤ 64) : SeqAt.shaped p = true := by
  show (p.canLay0 && decide (p.depth ≤ 64)) = true
  rw [h, decide_eq_true d]; rfl
end
end Fx

set_option Elab.async false
set_option linter.all false
set_option maxRecDepth 100000
set_option maxHeartbeats 4000000
set_option autoImplicit false
/-! Fx, part E: == != in, repr, tests, subscripts. -/
namespace Fx
open PySem PySem.Spec PyProof.Rows L2

/-- what a body's context has -/
structure Cd (X : Cx) : Prop where
  hc : X.calm = true
  hu : X.A.units + 150 < cLine
  hg : X.A.guards = some []

/-! ### == and != -/
def gEq : F2 := fun ra rb st => match ra.toP st 60, rb.toP st 60 with
  | some p, some q => .ok (.v (.bl (PyData.eqv p q))) st
  | _, _ => .stuck
def gNe : F2 := fun ra rb st => match ra.toP st 60, rb.toP st 60 with
  | some p, some q => .ok (.v (.bl (!PyData.eqv p q))) st
  | _, _ => .stuck
section
variable {X : Cx}
theorem op2_eq : Op2 X (rEqD X.K) gEq := by
  intro W σ H H0 H0' φ st ra rb x y Q s rx ry h
  unfold gEq at h
  split at h
  · rename_i p q e1 e2
    obtain ⟨h1, h2, h3⟩ := rtoP_ok s rx e1
    obtain ⟨k1, k2, k3⟩ := rtoP_ok s ry e2
    exact ⟨p, q, h1, k1, shaped_of h2 (by omega), shaped_of k2 (by omega), of_val s (.bl _) h⟩
  · exact h.elim
theorem op2_ne : Op2 X (rNeD X.K) gNe := by
  intro W σ H H0 H0' φ st ra rb x y Q s rx ry h
  unfold gNe at h
  split at h
  · rename_i p q e1 e2
    obtain ⟨h1, h2, h3⟩ := rtoP_ok s rx e1
    obtain ⟨k1, k2, k3⟩ := rtoP_ok s ry e2
    exact ⟨p, q, h1, k1, shaped_of h2 (by omega), shaped_of k2 (by omega), of_val s (.bl _) h⟩
  · exact h.elim
end

/-! ### is None -/
def R.isNon : R → Bool
  | .v .non => true
  | _ => false
def gIsN : F2 := fun ra rb st => match rb with
  | .v .non => .ok (.v (.bl ra.isNon)) st
  | _ => .stuck
def gNotN : F2 := fun ra rb st => match rb with
  | .v .non => .ok (.v (.bl (!ra.isNon))) st
  | _ => .stuck
theorem non_iff {P : Program} {w : World} {K : PySem.W.Frag} {H0 H : Hp} {φ : List Addr} {r : R} {v : V} (h : RR P w K H0 H φ r v) : decide (v = .non) = r.isNon := by
  cases r with
  | o x => obtain ⟨a, rfl, _⟩ := h; rfl
  | v d =>
    cases d <;> cases h <;> rfl
section
variable {X : Cx}
theorem op2_isN : Op2 X (fun x y H Q => y = .non ∧ Q (.bl (decide (x = .non))) H) gIsN := by
  intro W σ H H0 H0' φ st ra rb x y Q s rx ry h
  unfold gIsN at h
  split at h
  · exact ⟨non_ok ry, by rw [non_iff rx]; exact of_val s (.bl _) h⟩
  · exact h.elim
theorem op2_notN : Op2 X (fun x y H Q => y = .non ∧ Q (.bl (!decide (x = .non))) H) gNotN := by
  intro W σ H H0 H0' φ st ra rb x y Q s rx ry h
  unfold gNotN at h
  split at h
  · exact ⟨non_ok ry, by rw [non_iff rx]; exact of_val s (.bl _) h⟩
  · exact h.elim
end

/-! ### dicts -/
def D.key : D → Option Key
  | .int i => some (.inl i)
  | .str x => some (.inr x)
  | _ => none
def D.keyT : D → Option (List Key)
  | .tup xs => xs.mapM D.key
  | _ => none
def valD {κ : Type} [DecidableEq κ] (kvs : List (κ × D)) (k : κ) : Option D := (kvs.find? fun kv => decide (kv.1 = k)).map (·.2)
def putD {κ : Type} [DecidableEq κ] (kvs : List (κ × D)) (k : κ) (v : D) : List (κ × D) :=
  if (kvs.any fun kv => decide (kv.1 = k)) = true then kvs.map (fun kv => if kv.1 = k then (kv.1, v) else kv) else kvs ++ [(k, v)]
/-- the object behind -/
def objOf (st : Store) : R → Option O
  | .o x => some x
  | .v (.ref n) => st[n]?
  | _ => none
@[simp] theorem objOf_o (st : Store) (x : O) : objOf st (.o x) = some x := rfl
@[simp] theorem objOf_ref (st : Store) (n : Nat) : objOf st (.v (.ref n)) = st[n]? := rfl
/-- d at k: not a dict, not there, there -/
def dictGet (st : Store) (rd : R) (k : D) : Option (Option D) :=
  match objOf st rd with
  | some (.dK kvs) => k.key.map fun k => valD kvs k
  | some (.dT kvs) => k.keyT.map fun k => valD kvs k
  | _ => none
section
variable {P : Program} {w : World} {K : PySem.W.Frag} {H0 H : Hp} {φ : List Addr} {st : Store} {r : R} {v : V}
theorem objOf_ok {o : O} (s : RS P w K H φ st) (h : RR P w K H0 H φ r v) (e : objOf st r = some o) : ∃ a, v = .ref a ∧ RO P w K H φ o a := by
  cases r with
  | o x => cases e; obtain ⟨a, rfl, hx, _⟩ := h; exact ⟨a, rfl, hx⟩
  | v d =>
    cases d with
    | ref n =>
      obtain ⟨a, o', rfl, h1, h2, h3⟩ := s.of_ref h
      simp only [objOf, h2] at e
      cases e
      exact ⟨a, rfl, h3⟩
    | _ => cases e
theorem key_ok {d : D} {k : Key} (h : RD K H φ d v) (e : d.key = some k) : v = kV k := by
  cases h <;> first | (cases e; rfl) | cases e
theorem keys_ok : ∀ {xs : List D} {vs : List V} {ks : List Key}, RDs K H φ xs vs → xs.mapM D.key = some ks → vs = ks.map kV
  | [], _, ks, .nil, e => by
    have : ks = [] := by simpa using e.symm
    subst this; rfl
  | d :: ds, _, ks, .cons h t, e => by
    rw [List.mapM_cons] at e
    cases e1 : d.key with
    | none => rw [e1] at e; cases e
    | some k =>
      rw [e1] at e
      cases e2 : ds.mapM D.key with
      | none => rw [e2] at e; cases e
      | some ls =>
        rw [e2] at e
        have : ks = k :: ls := by simpa using e.symm
        subst this
        rw [key_ok h e1, keys_ok t e2]; rfl
def ROpt (K : PySem.W.Frag) (H : Hp) (φ : List Addr) : Option D → Option V → Prop
  | some d, some v => RD K H φ d v
  | none, none => True
  | _, _ => False
theorem RKs.val {κ : Type} [DecidableEq κ] {kvs : List (κ × D)} {kws : List (κ × V)} (r : RKs K H φ kvs kws) (k : κ) : ROpt K H φ (valD kvs k) (valV kws k) := by
  induction r with
  | nil => trivial
  | @cons k' d ds v vs h t ih =>
    unfold valD valV at *
    rw [List.find?_cons, List.find?_cons]
    by_cases e : k' = k
    · simp only [e, decide_true]; exact h
    · simp only [e, decide_false]; exact ih
theorem RKs.length {κ : Type} {kvs : List (κ × D)} {kws : List (κ × V)} (r : RKs K H φ kvs kws) : kvs.length = kws.length := by
  induction r with
  | nil => rfl
  | cons _ _ ih => simp [ih]
theorem RKs.any {κ : Type} [DecidableEq κ] {kvs : List (κ × D)} {kws : List (κ × V)} (r : RKs K H φ kvs kws) (k : κ) : (kvs.any fun kv => decide (kv.1 = k)) = (kws.any fun kv => decide (kv.1 = k)) := by
  induction r with
  | nil => rfl
  | cons _ _ ih => simp only [List.any_cons, ih]
theorem RKs.put {κ : Type} [DecidableEq κ] {kvs : List (κ × D)} {kws : List (κ × V)} (r : RKs K H φ kvs kws) (k : κ) {d : D} {v : V} (h : RD K H φ d v) : RKs K H φ (putD kvs k d) (putK kws k v) := by
  have e := r.any k
  unfold putD putK
  rw [e]
  split
  · clear e
    induction r with
    | nil => exact .nil
    | @cons k' d' ds v' vs h' t ih =>
      rw [List.map_cons, List.map_cons]
      rename_i c
      by_cases q : k' = k
      · simp only [q, if_true]
        subst q
        refine .cons h ?_
        by_cases c2 : (vs.any fun kv => decide (kv.1 = k')) = true
        · exact ih c2
        · have n1 : ∀ p ∈ vs, p.1 ≠ k' := fun p hp z => c2 (List.any_eq_true.mpr ⟨p, hp, by simp [z]⟩)
          have n2 : ∀ p ∈ ds, p.1 ≠ k' := fun p hp z => by
            have := t.any k'
            exact c2 (by rw [← this]; exact List.any_eq_true.mpr ⟨p, hp, by simp [z]⟩)
          have m1 : vs.map (fun kv => if kv.1 = k' then (kv.1, v) else kv) = vs := by
            conv => rhs; rw [← List.map_id vs]
            exact List.map_congr_left fun p hp => by simp [n1 p hp]
          have m2 : ds.map (fun kv => if kv.1 = k' then (kv.1, d) else kv) = ds := by
            conv => rhs; rw [← List.map_id ds]
            exact List.map_congr_left fun p hp => by simp [n2 p hp]
          rw [m1, m2]; exact t
      · simp only [q, if_false]
        refine .cons h' (ih ?_)
        simpa [q] using c
  · clear e
    induction r with
    | nil => exact .cons h .nil
    | @cons k' d' ds v' vs h' t ih =>
      rename_i c
      refine .cons h' (ih ?_)
      simp only [List.any_cons, Bool.or_eq_true, not_or] at c
      exact c.2
end
/-- d[k], k in d -/
theorem dictGet_ok {P : Program} {w : World} {K : PySem.W.Frag} {H0 H : Hp} {φ : List Addr} {st : Store} {rd : R} {x y : V} {k : D} {o : Option D} (s : RS P w K H φ st) (hd : RR P w K H0 H φ rd x) (hk : RD K H φ k y) (e : dictGet st rd k = some o) :
    ∃ a ov, x = .ref a ∧ DGet H a y ov ∧ ROpt K H φ o ov := by
  unfold dictGet at e
  split at e
  · rename_i kvs eo
    obtain ⟨a, rfl, ro⟩ := objOf_ok s hd eo
    cases ro with
    | dK q t =>
      cases e1 : k.key with
      | none => rw [e1] at e; cases e
      | some k' =>
        rw [e1] at e; cases e
        rw [key_ok hk e1]
        exact ⟨a, _, rfl, DGet.k q, t.val k'⟩
  · rename_i kvs eo
    obtain ⟨a, rfl, ro⟩ := objOf_ok s hd eo
    cases ro with
    | dT q t =>
      cases e1 : k.keyT with
      | none => rw [e1] at e; cases e
      | some k' =>
        rw [e1] at e; cases e
        cases k with
        | tup xs =>
          cases hk with
          | tup hq hr =>
            rename_i b vs
            have ev := keys_ok hr e1
            subst ev
            exact ⟨a, _, rfl, DGet.t q hq, t.val k'⟩
        | _ => cases e1
  · cases e

/-! ### in, not in -/
/-- the items of a list or a tuple, as data -/
def itemsP (st : Store) (r : R) : Option (List PyData) := match r with
  | .v (.tup xs) => xs.mapM (D.toP st 60)
  | _ => (seqL st r).bind fun xs => xs.mapM (D.toP st 60)
def inP (st : Store) (ra rb : R) : Option Bool := match rb, ra with
  | .v (.str y), .v (.str x) => some (!(Builtin.Str.occurrences y x 0 y.length 1).isEmpty)
  | rb, ra => match itemsP st rb with
    | some ps => (ra.toP st 60).map fun p => ps.any fun z => PyData.eqv z p
    | none => match ra with
      | .v k => (dictGet st rb k).map (·.isSome)
      | _ => none
def gIn : F2 := fun ra rb st => match inP st ra rb with
  | some b => .ok (.v (.bl b)) st
  | none => .stuck
def gNotIn : F2 := fun ra rb st => match inP st ra rb with
  | some b => .ok (.v (.bl (!b))) st
  | none => .stuck
/-- what is asked of the two for "in" to have the answer b -/
def InV (K : PySem.W.Frag) (x y : V) (H : Hp) (b : Bool) : Prop :=
  (∃ i j, x = .str i ∧ y = .str j ∧ b = !(Builtin.Str.occurrences j i 0 j.length 1).isEmpty) ∨
  (∃ d ds, Dp K H x d ∧ (Dp K H y (.list ds) ∨ Dp K H y (.tuple ds)) ∧ SeqAt.shaped d = true ∧ PyData.canLayAll0 ds = true ∧ b = ds.any fun z => PyData.eqv z d) ∨
  (∃ a o, y = .ref a ∧ DGet H a x o ∧ b = o.isSome)
section
variable {P : Program} {w : World} {K : PySem.W.Frag} {H0 H0' H : Hp} {φ : List Addr} {st : Store} {ra rb : R} {x y : V}
theorem itemsP_ok {ps : List PyData} (s : RS P w K H φ st) (h : RR P w K H0 H φ rb y) (e : itemsP st rb = some ps) : (Dp K H y (.list ps) ∨ Dp K H y (.tuple ps)) ∧ PyData.canLayAll0 ps = true := by
  have lst : ∀ xs, seqL st rb = some xs → xs.mapM (D.toP st 60) = some ps → (Dp K H y (.list ps) ∨ Dp K H y (.tuple ps)) ∧ PyData.canLayAll0 ps = true := fun xs e1 e2 => by
    obtain ⟨a, vs, rfl, q, t⟩ := seqL_ok s h e1
    obtain ⟨h1, h2, _⟩ := toPs_ok s t e2
    exact ⟨.inl (.lst q h1), h2⟩
  unfold itemsP at e
  split at e
  · obtain ⟨a, vs, rfl, q, t⟩ := tup_ok h
    obtain ⟨h1, h2, _⟩ := toPs_ok s t e
    exact ⟨.inr (.tup (SqT.of q) h1), h2⟩
  · cases e1 : seqL st rb with
    | none => rw [e1] at e; cases e
    | some xs => rw [e1] at e; exact lst xs e1 e
theorem inP_ok {b : Bool} (s : RS P w K H φ st) (rx : RR P w K H0 H φ ra x) (ry : RR P w K H0' H φ rb y) (e : inP st ra rb = some b) : InV K x y H b := by
  unfold inP at e
  split at e
  · cases e
    exact .inl ⟨_, _, str_ok rx, str_ok ry, rfl⟩
  · split at e
    · rename_i ps e1
      cases e2 : ra.toP st 60 with
      | none => rw [e2] at e; cases e
      | some p =>
        rw [e2] at e; cases e
        obtain ⟨h1, h2, h3⟩ := rtoP_ok s rx e2
        obtain ⟨k1, k2⟩ := itemsP_ok s ry e1
        exact .inr (.inl ⟨p, ps, h1, k1, shaped_of h2 (by omega), k2, rfl⟩)
    · split at e
      · rename_i k _
        cases e1 : dictGet st rb k with
        | none => rw [e1] at e; cases e
        | some o =>
          rw [e1] at e; cases e
          obtain ⟨a, ov, rfl, g, r⟩ := dictGet_ok s ry rx e1
          refine .inr (.inr ⟨a, ov, rfl, g, ?_⟩)
          cases o <;> cases ov <;> first | rfl | exact r.elim
      · cases e
end
theorem shaped_lay {d : PyData} (h : SeqAt.shaped d = true) : d.canLay0 = true ∧ d.depth ≤ 64 := by
  have h' : (d.canLay0 && decide (d.depth ≤ 64)) = true := h
  rw [Bool.and_eq_true] at h'
  exact ⟨h'.1, of_decide_eq_true h'.2⟩
section
variable {X : Cx}
def rInV (K : PySem.W.Frag) : R2 := fun x y H Q => ∃ b, InV K x y H b ∧ Q (.bl b) H
def rNotInV (K : PySem.W.Frag) : R2 := fun x y H Q => ∃ b, InV K x y H b ∧ Q (.bl (!b)) H
theorem op_inV (C : Cd X) : OpR X (compareOp .In) (rInV X.K) := by
  rintro pins s σ H x y v u Q I rx ry ⟨b, h, q⟩
  have hu := C.hu
  rcases h with ⟨i, j, rfl, rfl, rfl⟩ | ⟨d, ds, hd, he, sd, se, rfl⟩ | ⟨a, o, rfl, g, rfl⟩
  · exact op_in_str pins s σ H _ _ v u Q I rx ry ⟨i, j, rfl, rfl, q⟩
  · obtain ⟨as, r1⟩ := Dp.reads I d x v hd rx
    obtain ⟨l1, l2⟩ := shaped_lay sd
    have room : X.A.units + 1 + min (PyData.depthAll ds) d.depth < cLine := by omega
    rcases he with he | he
    · obtain ⟨bs, r2⟩ := Dp.reads I (.list ds) y u he ry
      exact SeqAt.in_list_reads r2 r1 se l1 room ⟨.bl _, H, I, rfl, q⟩
    · obtain ⟨bs, r2⟩ := Dp.reads I (.tuple ds) y u he ry
      exact SeqAt.in_tuple_reads r2 r1 se l1 room ⟨.bl _, H, I, rfl, q⟩
  · obtain rfl : u = Value.ref a := ry
    exact d_in (by omega) I g rx fun s3 I3 => ⟨.bl o.isSome, H, I3, rfl, q⟩
theorem op_notInV (C : Cd X) : OpR X (compareOp .NotIn) (rNotInV X.K) := by
  rintro pins s σ H x y v u Q I rx ry ⟨b, h, q⟩
  have hu := C.hu
  rcases h with ⟨i, j, rfl, rfl, rfl⟩ | ⟨d, ds, hd, he, sd, se, rfl⟩ | ⟨a, o, rfl, g, rfl⟩
  · exact op_notin_str pins s σ H _ _ v u Q I rx ry ⟨i, j, rfl, rfl, q⟩
  · obtain ⟨as, r1⟩ := Dp.reads I d x v hd rx
    obtain ⟨l1, l2⟩ := shaped_lay sd
    have room : X.A.units + 1 + min (PyData.depthAll ds) d.depth < cLine := by omega
    rcases he with he | he
    · obtain ⟨bs, r2⟩ := Dp.reads I (.list ds) y u he ry
      exact SeqAt.notIn_list_reads r2 r1 se l1 room ⟨.bl _, H, I, rfl, q⟩
    · obtain ⟨bs, r2⟩ := Dp.reads I (.tuple ds) y u he ry
      exact SeqAt.notIn_tuple_reads r2 r1 se l1 room ⟨.bl _, H, I, rfl, q⟩
  · obtain rfl : u = Value.ref a := ry
    exact d_notIn (by omega) I g rx fun s3 I3 => ⟨.bl (!o.isSome), H, I3, rfl, q⟩
theorem op2_in : Op2 X (rInV X.K) gIn := by
  intro W σ H H0 H0' φ st ra rb x y Q s rx ry h
  unfold gIn at h
  split at h
  · rename_i b e
    exact ⟨b, inP_ok s rx ry e, of_val s (.bl _) h⟩
  · exact h.elim
theorem op2_notIn : Op2 X (rNotInV X.K) gNotIn := by
  intro W σ H H0 H0' φ st ra rb x y Q s rx ry h
  unfold gNotIn at h
  split at h
  · rename_i b e
    exact ⟨b, inP_ok s rx ry e, of_val s (.bl _) h⟩
  · exact h.elim
end
end Fx

set_option Elab.async false
set_option linter.all false
set_option maxRecDepth 100000
set_option maxHeartbeats 4000000
set_option autoImplicit false
/-! Fx, part F: tests, and or not, if-expressions, subscripts, slices. -/
namespace Fx
open PySem PySem.Spec PyProof.Rows L2

/-! ### tests -/
def asB : R → Store → Out Bool
  | .v (.bl b), st => .ok b st
  | _, _ => .stuck
@[simp] theorem asB_bl (b : Bool) (st : Store) : asB (.v (.bl b)) st = .ok b st := rfl
def fTrue (f : FE) : FB := fun env st => (f env st).bind asB
section
variable {X : Cx} {W : WX}
theorem tTest_of {f : FE} {t : TE} (i : ∀ σ H Q, tE X.md W f σ H Q → t σ H Q) {σ : L2.St} {H : Hp} {Q : Bool → Hp → Prop} (h : tB X.md W (fTrue f) σ H Q) : t σ H (fun x H' => ∃ k, x = .bl k ∧ Q k H') := by
  refine i _ _ _ ?_
  obtain ⟨env, st, φ, a, q⟩ := h
  refine ⟨env, st, φ, a, (PostB.bind q).mono fun r H1 φ1 st1 e s q1 v rv => ?_⟩
  unfold asB at q1
  split at q1
  · exact ⟨_, bl_ok rv, q1 H1 φ1 Ext.refl s⟩
  · exact q1.elim
theorem sb_val {e : Expr} {f : FE} (h : SE X W e f) (he : ∀ whole, isTrue e X.env whole = (do let v ← whole; standAt e.pos; holding [v] (truthy v)) := by intro _; rfl) : SB X W e (fTrue f) :=
  pt_imp (pt_val h he) fun σ H Q q => tTest_of (fun _ _ _ z => z) q
theorem sb_cmp {a b : Expr} {fa fb : FE} {pos : Pos} {g : F2} {r : R2} {op : CmpOp} (ho : OpR X (compareOp op) r) (hg : Op2 X r g) (hm : behindInMarks op b = false) (ha : SE X W a fa) (hb : SE X W b fb) : SB X W (.Compare a [op] [b] pos) (fTrue (fBin g fa fb)) :=
  pt_imp (pt_cmpR ho ha hb hm) fun σ H Q q => tTest_of (fun _ _ _ z => tOp_of hg z) q
end
def fAnd (fa fb : FB) : FB := fun env st => (fa env st).bind fun b st1 => if b = true then fb env st1 else .ok false st1
def fOr (fa fb : FB) : FB := fun env st => (fa env st).bind fun b st1 => if b = true then .ok true st1 else fb env st1
def fNot (fa : FB) : FB := fun env st => (fa env st).bind fun b st1 => .ok (!b) st1
def fIf (c : FB) (fa fb : FE) : FE := fun env st => (c env st).bind fun b st1 => if b = true then fa env st1 else fb env st1
/-- as values: bools, the last one anything -/
def fAndV (fa fb : FE) : FE := fun env st => (fa env st).bind fun r st1 => match r with
  | .v (.bl true) => fb env st1
  | .v (.bl false) => .ok (.v (.bl false)) st1
  | _ => .stuck
def fOrV (fa fb : FE) : FE := fun env st => (fa env st).bind fun r st1 => match r with
  | .v (.bl true) => .ok (.v (.bl true)) st1
  | .v (.bl false) => fb env st1
  | _ => .stuck
def fNotV (fa : FE) : FE := fun env st => (fa env st).bind fun r st1 => match r with
  | .v (.bl b) => .ok (.v (.bl (!b))) st1
  | _ => .stuck
section
variable {X : Cx} {W : WX} {a b : Expr} {rest : List Expr} {fa fb : FB} {ga gb : FE} {pos : Pos}
theorem tB_then {f : FB} {k : Bool → Store → Out Bool} {Q : Bool → Hp → Prop} {G : Bool → Hp → Prop} {σ : L2.St} {H : Hp} {env : Env} {st : Store} {φ : List Addr} (a : At X.md σ H env st φ) (h : PostB X.md W H φ σ ((f env st).bind k) Q)
    (g : ∀ b st1 H1 φ1, Ext H φ H1 φ1 → At X.md σ H1 env st1 φ1 → PostB X.md W H1 φ1 σ (k b st1) Q → G b H1) : tB X.md W f σ H G :=
  ⟨env, st, φ, a, (PostB.bind h).mono fun b H1 φ1 st1 e s q => g b st1 H1 φ1 e (a.then e s) q⟩
theorem sbw_and1 (ha : SB X W a fa) : SBW X W (.BoolOp .And [a] pos) fa := pw_and1 ha
theorem sbw_or1 (ha : SB X W a fa) : SBW X W (.BoolOp .Or [a] pos) fa := pw_or1 ha
theorem sbw_and (ha : SB X W a fa) (hb : SBW X W (.BoolOp .And (b :: rest) pos) fb) : SBW X W (.BoolOp .And (a :: b :: rest) pos) (fAnd fa fb) := by
  refine pw_imp (pw_and ha hb) fun σ H Q ⟨env, st, φ, a, q⟩ => ?_
  refine tB_then a q fun b st1 H1 φ1 e a1 q1 => ?_
  cases b with
  | true => exact ⟨env, st1, φ1, a1, q1⟩
  | false => exact q1 H1 φ1 Ext.refl a1.rs
theorem sbw_or (ha : SB X W a fa) (hb : SBW X W (.BoolOp .Or (b :: rest) pos) fb) : SBW X W (.BoolOp .Or (a :: b :: rest) pos) (fOr fa fb) := by
  refine pw_imp (pw_or ha hb) fun σ H Q ⟨env, st, φ, a, q⟩ => ?_
  refine tB_then a q fun b st1 H1 φ1 e a1 q1 => ?_
  cases b with
  | true => exact q1 H1 φ1 Ext.refl a1.rs
  | false => exact ⟨env, st1, φ1, a1, q1⟩
theorem sb_w {e : Expr} {f : FB} (h : SBW X W e f) : SB X W e f := h.pt
theorem sb_not (ha : SB X W a fa) : SB X W (.UnaryOp .Not a pos) (fNot fa) := by
  refine pt_imp (pt_not ha) fun σ H Q ⟨env, st, φ, a, q⟩ => ?_
  exact tB_then a q fun b st1 H1 φ1 e a1 q1 => q1 H1 φ1 Ext.refl a1.rs
theorem se_if {c : Expr} {fc : FB} {x y : Expr} (hc : SB X W c fc) (ha : SE X W x ga) (hb : SE X W y gb) : SE X W (.IfExp c x y pos) (fIf fc ga gb) := by
  refine pe_imp (pe_ifExp hc ha hb) fun σ H Q ⟨env, st, φ, a, q⟩ => ?_
  refine tB_seq a q fun b st1 H1 φ1 e a1 q1 => ?_
  cases b with
  | true => exact ⟨env, st1, φ1, a1, q1⟩
  | false => exact ⟨env, st1, φ1, a1, q1⟩
theorem se_one {op : BoolOp} (ha : SE X W a ga) : SE X W (.BoolOp op [a] pos) ga := pe_one ha
theorem se_and (ha : SE X W a ga) (hb : SE X W (.BoolOp .And (b :: rest) pos) gb) : SE X W (.BoolOp .And (a :: b :: rest) pos) (fAndV ga gb) := by
  refine pe_imp (pe_and ha hb) fun σ H Q ⟨env, st, φ, a, q⟩ => ?_
  refine tE_seq a q fun r st1 H1 φ1 v e a1 rv q1 => ?_
  split at q1
  · exact ⟨true, bl_ok rv, ⟨env, st1, φ1, a1, q1⟩⟩
  · exact ⟨false, bl_ok rv, of_val a1.rs (.bl false) q1⟩
  · exact q1.elim
theorem se_or (ha : SE X W a ga) (hb : SE X W (.BoolOp .Or (b :: rest) pos) gb) : SE X W (.BoolOp .Or (a :: b :: rest) pos) (fOrV ga gb) := by
  refine pe_imp (pe_or ha hb) fun σ H Q ⟨env, st, φ, a, q⟩ => ?_
  refine tE_seq a q fun r st1 H1 φ1 v e a1 rv q1 => ?_
  split at q1
  · exact ⟨true, bl_ok rv, of_val a1.rs (.bl true) q1⟩
  · exact ⟨false, bl_ok rv, ⟨env, st1, φ1, a1, q1⟩⟩
  · exact q1.elim
theorem se_not (ha : SE X W a ga) : SE X W (.UnaryOp .Not a pos) (fNotV ga) := by
  refine pe_imp (pe_not ha) fun σ H Q ⟨env, st, φ, a, q⟩ => ?_
  refine tE_seq a q fun r st1 H1 φ1 v e a1 rv q1 => ?_
  split at q1
  · exact ⟨_, bl_ok rv, of_val a1.rs (.bl _) q1⟩
  · exact q1.elim
end
/-- minus -/
def fNeg (f : FE) : FE := fun env st => (f env st).bind fun r st1 => match r with
  | .v (.int i) => .ok (.v (.int (-i))) st1
  | _ => .stuck
theorem se_neg {X : Cx} {W : WX} {a : Expr} {f : FE} {pos : Pos} (ha : SE X W a f) : SE X W (.UnaryOp .USub a pos) (fNeg f) := by
  refine pe_imp (pe_un un_neg ha) fun σ H Q ⟨env, st, φ, a, q⟩ => ?_
  refine tE_seq a q fun r st1 H1 φ1 v e a1 rv q1 => ?_
  split at q1
  · exact ⟨_, int_ok rv, of_val a1.rs (.int _) q1⟩
  · exact q1.elim
/-- a < b < c -/
def fChain (g g' : F2) (fa fb fc : FE) : FE := fun env st => (fa env st).bind fun ra st1 => (fb env st1).bind fun rb st2 => (g ra rb st2).bind fun r st3 => match r with
  | .v (.bl true) => (fc env st3).bind fun rc st4 => g' rb rc st4
  | .v (.bl false) => .ok (.v (.bl false)) st3
  | _ => .stuck
theorem tChain_of {X : Cx} {W : WX} {fa fb fc : FE} {r r' : R2} {g g' : F2} (hg : Op2 X r g) (hg' : Op2 X r' g') {σ : L2.St} {H : Hp} {Q : VK} (h : tE X.md W (fChain g g' fa fb fc) σ H Q) : tChain r r' (tE X.md W fa) (tE X.md W fb) (tE X.md W fc) σ H Q := by
  obtain ⟨env, st, φ, a, q⟩ := h
  refine tE_seq a q fun ra st1 H1 φ1 x e1 a1 rx q1 => ?_
  refine tE_seq a1 q1 fun rb st2 H2 φ2 y e2 a2 ry q2 => ?_
  refine hg W σ H2 H H1 φ2 st2 ra rb x y _ a2.rs (rx.mono e2) ry ((PostE.bind q2).mono fun r3 H3 φ3 st3 e3 s3 q3 v rv => ?_)
  have a3 := a2.then e3 s3
  split at q3
  · refine ⟨true, bl_ok rv, ?_⟩
    rw [if_pos rfl]
    refine tE_seq a3 q3 fun rc st4 H4 φ4 z e4 a4 rz q4 => ?_
    exact hg' W σ H4 H1 H3 φ4 st4 rb rc y z Q a4.rs ((ry.mono e3).mono e4) rz q4
  · refine ⟨false, bl_ok rv, ?_⟩
    rw [if_neg (by decide)]
    exact of_val s3 (.bl false) q3
  · exact q3.elim
section
variable {X : Cx} {W : WX} {a b c : Expr} {fa fb fc : FE} {pos : Pos} {g g' : F2} {r r' : R2} {op op' : CmpOp}
theorem se_chain (ho : OpR X (compareOp op) r) (ho' : OpR X (compareOp op') r') (hg : Op2 X r g) (hg' : Op2 X r' g') (ha : SE X W a fa) (hb : SE X W b fb) (hc : SE X W c fc) (hm : lastMarks [op, op'] [b, c] = false := by with_unfolding_all rfl) : SE X W (.Compare a [op, op'] [b, c] pos) (fChain g g' fa fb fc) :=
  pe_imp (pe_chain ho ho' ha hb hc hm) fun _ _ _ h => tChain_of hg hg' h
theorem sb_chain (ho : OpR X (compareOp op) r) (ho' : OpR X (compareOp op') r') (hg : Op2 X r g) (hg' : Op2 X r' g') (ha : SE X W a fa) (hb : SE X W b fb) (hc : SE X W c fc) (hm : lastMarks [op, op'] [b, c] = false := by with_unfolding_all rfl) : SB X W (.Compare a [op, op'] [b, c] pos) (fTrue (fChain g g' fa fb fc)) :=
  pt_imp (pt_chain ho ho' ha hb hc hm) fun σ H Q q => tTest_of (fun _ _ _ z => tChain_of hg hg' z) q
end

/-! ### subscripts -/
def idx (st : Store) (ra rb : R) : Option D := match ra, rb with
  | .v (.tup xs), .v (.int i) => atI xs i
  | .v (.str z), .v (.int i) => if z.length ≤ 1000000 then (atI z.cps.toList i).map fun c => .str ⟨#[c]⟩ else none
  | ra, .v k => match seqL st ra with
    | some xs => match k with
      | .int i => atI xs i
      | _ => none
    | none => (dictGet st ra k).bind id
  | _, _ => none
def gIx : F2 := fun ra rb st => match idx st ra rb with
  | some d => .ok (.v d) st
  | none => .stuck
theorem RDs.atI {K : PySem.W.Frag} {H : Hp} {φ : List Addr} {xs : List D} {vs : List V} {i : Int} {d : D} (r : RDs K H φ xs vs) (h : L2.atI xs i = some d) : ∃ v, L2.atI vs i = some v ∧ RD K H φ d v := by
  unfold L2.atI at *
  rw [← r.length]
  cases e : ixN xs.length i with
  | none => rw [e] at h; cases h
  | some j =>
    rw [e] at h
    obtain ⟨v, e1, e2⟩ := r.get (i := j) (d := d) h
    exact ⟨v, e1, e2⟩
section
variable {X : Cx}
def rIxD (K : PySem.W.Frag) : R2 := fun x y H Q => ∃ a v, x = .ref a ∧ DGet H a y (some v) ∧ Q v H
theorem ix_dict (C : Cd X) : IxR X (rIxD X.K) := by
  intro value slice pins s σ H x y v u Q I rx ry h hs
  obtain ⟨a, z, rfl, g, q⟩ := h
  obtain rfl : v = Value.ref a := rx
  have hu := C.hu
  exact PyProof.Rows.tail_any (dict_typeIs I g) PySem.F.slot_dict_getitem.lookup (d_getItem (by omega) I g ry fun w' s3 I3 rw' => ⟨z, H, I3, rw', q⟩) hs
def rIx4 (K : PySem.W.Frag) : R2 := fun x y H Q => rIx K x y H Q ∨ rIxD K x y H Q
theorem ix_all (C : Cd X) : IxR X (rIx4 X.K) := ix_seq.or (ix_dict C)
theorem op2_ix : Op2 X (rIx4 X.K) gIx := by
  intro W σ H H0 H0' φ st ra rb x y Q s rx ry h
  unfold gIx at h
  split at h
  · rename_i d e
    unfold idx at e
    split at e
    · obtain ⟨a, vs, rfl, q, t⟩ := tup_ok rx
      obtain ⟨v, e1, r⟩ := t.atI e
      exact .inl (.inr (.inl ⟨a, vs, _, v, rfl, int_ok ry, SqT.of q, e1, of_val s r h⟩))
    · split at e
      · rename_i hl
        rename_i z i
        cases e1 : atI z.cps.toList i with
        | none => rw [e1] at e; cases e
        | some c =>
          rw [e1] at e; cases e
          exact .inl (.inr (.inr ⟨z, i, c, str_ok rx, int_ok ry, line_of hl, e1, of_val s (.str _) h⟩))
      · cases e
    · split at e
      · rename_i xs e1
        split at e
        · obtain ⟨a, vs, rfl, q, t⟩ := seqL_ok s rx e1
          obtain ⟨v, e1, r⟩ := t.atI e
          exact .inl (.inl ⟨a, vs, _, v, rfl, int_ok ry, q, e1, of_val s r h⟩)
        · cases e
      · rename_i k _ _ _ _
        cases e2 : dictGet st ra k with
        | none => rw [e2] at e; cases e
        | some o =>
          rw [e2] at e
          have : o = some d := e
          subst this
          obtain ⟨a, ov, rfl, g, r⟩ := dictGet_ok s rx ry e2
          cases ov with
          | none => exact r.elim
          | some v => exact .inr ⟨a, v, rfl, g, of_val (M := X.md) s (show RD X.K H φ d v from r) h⟩
    · cases e
  · exact h.elim
theorem se_ix {W : WX} {a b : Expr} {fa fb : FE} {pos : Pos} (C : Cd X) (ha : SE X W a fa) (hb : SE X W b fb) (hs : PlainIx b) : SE X W (.Subscript a b pos) (fBin gIx fa fb) := pe_imp (pe_ix (ix_all C) ha hb hs) fun _ _ _ h => tOp_of op2_ix h
end

/-! ### slices -/
abbrev FO := Env → Store → Out (Option Int)
def fNo : FO := fun _ st => .ok none st
def fPart (f : FE) : FO := fun env st => (f env st).bind fun r st1 => match r with
  | .v (.int i) => .ok (some i) st1
  | _ => .stuck
def cutD (xs : List D) (lo hi : Option Int) : List D := (xs.drop (HT.sIx xs.length 0 lo)).take (HT.sIx xs.length xs.length hi - HT.sIx xs.length 0 lo)
def slc (r : R) (lo hi : Option Int) (st : Store) : Out R := match r with
  | .v (.tup xs) => .ok (.v (.tup (cutD xs lo hi))) st
  | .v (.str z) => if z.length ≤ 1000000 then .ok (.v (.str (cutS z lo hi))) st else .stuck
  | r => match seqL st r with
    | some xs => .ok (.o (.lst (cutD xs lo hi))) st
    | none => .stuck
def fSl (f : FE) (lo hi : FO) : FE := fun env st => (f env st).bind fun r st1 => (lo env st1).bind fun l st2 => (hi env st2).bind fun u st3 => slc r l u st3
section
variable {X : Cx} {W : WX}
def tO (M : Md) (W : WX) (f : FO) : TO := fun σ H Q => ∃ env st φ, At M σ H env st φ ∧ Post M W H φ σ (f env st) fun o H' _ _ => Q o H'
abbrev SO (X : Cx) (W : WX) (e : Option Expr) (f : FO) : Prop := PO X e (tO X.md W f)
theorem so_none : SO X W none fNo := ⟨fun pins s σ H Q I ⟨env, st, φ, a, q⟩ => po_none.run pins s σ H Q I (q H φ Ext.refl a.rs)⟩
theorem so_some {e : Expr} {f : FE} (h : SE X W e f) : SO X W (some e) (fPart f) := ⟨fun pins s σ H Q I ⟨env, st, φ, a, q⟩ => (po_some h).run pins s σ H Q I (by
  refine ⟨env, st, φ, a, (Post.bind q).mono fun r H1 φ1 st1 e s q1 v rv => ?_⟩
  split at q1
  · exact ⟨_, int_ok rv, q1 H1 φ1 Ext.refl s⟩
  · exact q1.elim)⟩
theorem RDs.cut {K : PySem.W.Frag} {H : Hp} {φ : List Addr} {xs : List D} {vs : List V} (r : RDs K H φ xs vs) (lo hi : Option Int) : RDs K H φ (cutD xs lo hi) (cutV vs lo hi) := by
  unfold cutD cutV
  rw [r.length]
  exact (r.drop _).take _
theorem cut_whole {α : Type} (xs : List α) (a b : Nat) (h : a = 0 ∧ b = xs.length) : (xs.drop a).take (b - a) = xs := by
  obtain ⟨rfl, rfl⟩ := h; simp
theorem sl_all : SlR X (fun x lo hi H Q => rSlL X.K x lo hi H Q ∨ rSlA X.K x lo hi H Q ∨ rSlS x lo hi H Q) := sl_list.or (sl_tupA.or sl_str)
theorem tO_seq {f : FO} {k : Option Int → Store → Out R} {Q : VK} {G : Option Int → Hp → Prop} {σ : L2.St} {H : Hp} {env : Env} {st : Store} {φ : List Addr} (a : At X.md σ H env st φ) (h : PostE X.md W H φ σ ((f env st).bind k) Q)
    (g : ∀ r st1 H1 φ1, Ext H φ H1 φ1 → At X.md σ H1 env st1 φ1 → PostE X.md W H1 φ1 σ (k r st1) Q → G r H1) : tO X.md W f σ H G :=
  ⟨env, st, φ, a, (PostE.bind h).mono fun b H1 φ1 st1 e s q => g b st1 H1 φ1 e (a.then e s) q⟩
theorem se_sl {a : Expr} {lo hi : Option Expr} {f : FE} {fl fh : FO} {p2 pos : Pos} (ha : SE X W a f) (hl : SO X W lo fl) (hh : SO X W hi fh) : SE X W (.Subscript a (.Slice lo hi none p2) pos) (fSl f fl fh) := by
  refine pe_imp (pe_slice sl_all ha hl hh) fun σ H Q ⟨env, st, φ, a, q⟩ => ?_
  refine tE_seq a q fun r st1 H1 φ1 x e1 a1 rx q1 => ?_
  refine tO_seq a1 q1 fun l st2 H2 φ2 e2 a2 q2 => ?_
  refine tO_seq a2 q2 fun u st3 H3 φ3 e3 a3 q3 => ?_
  have rx3 := (rx.mono e2).mono e3
  have s := a3.rs
  unfold slc at q3
  split at q3
  · obtain ⟨a, vs, rfl, qt, t⟩ := tup_ok rx3
    have tc := t.cut l u
    refine .inr (.inl ⟨a, vs, rfl, SqT.of qt, fun z => ?_, fun _ p hp => new_tup s tc q3 hp⟩)
    rename_i xs
    have e : cutD xs l u = xs := by
      unfold cutD
      rw [t.length]
      refine cut_whole xs _ _ ⟨z.1, ?_⟩
      rw [z.2, t.length]
    rw [e] at q3
    exact of_val s (.tup qt t) q3
  · split at q3
    · rename_i hl
      exact .inr (.inr ⟨_, str_ok rx3, line_of hl, of_val s (.str _) q3⟩)
    · exact q3.elim
  · split at q3
    · rename_i xs e
      obtain ⟨a, vs, rfl, qt, t⟩ := seqL_ok s rx3 e
      exact .inl ⟨a, vs, rfl, qt, fun p hp => new_lst s (t.cut l u) q3 hp⟩
    · exact q3.elim
end
end Fx

set_option Elab.async false
set_option linter.all false
set_option maxRecDepth 100000
set_option maxHeartbeats 4000000
set_option autoImplicit false
/-! Fx, part G: statements, loops. -/
namespace Fx
open PySem PySem.Spec PyProof.Rows L2

inductive OutS where
  | next (e : Env) (s : Store) | ret (r : R) (s : Store) | brk (e : Env) (s : Store) | cont (e : Env) (s : Store) | exc (x : Ex) (e : Env) (s : Store) | stuck
abbrev FS := Env → Store → OutS
def Out.thenS {α : Type} (o : Out α) (env : Env) (k : α → Store → OutS) : OutS := match o with
  | .ok a st => k a st
  | .exc x st => .exc x env st
  | .stuck => .stuck
@[simp] theorem Out.thenS_ok {α : Type} (a : α) (st : Store) (env : Env) (k : α → Store → OutS) : (Out.ok a st).thenS env k = k a st := rfl
@[simp] theorem Out.thenS_exc {α : Type} (x : Ex) (st : Store) (env : Env) (k : α → Store → OutS) : (Out.exc x st : Out α).thenS env k = .exc x env st := rfl
@[simp] theorem Out.thenS_stuck {α : Type} (env : Env) (k : α → Store → OutS) : (Out.stuck : Out α).thenS env k = .stuck := rfl
def OutS.seq (o : OutS) (k : FS) : OutS := match o with
  | .next e s => k e s
  | .ret r s => .ret r s
  | .brk e s => .brk e s
  | .cont e s => .cont e s
  | .exc x e s => .exc x e s
  | .stuck => .stuck
@[simp] theorem OutS.seq_next (e : Env) (s : Store) (k : FS) : (OutS.next e s).seq k = k e s := rfl
@[simp] theorem OutS.seq_ret (r : R) (s : Store) (k : FS) : (OutS.ret r s).seq k = .ret r s := rfl
@[simp] theorem OutS.seq_brk (e : Env) (s : Store) (k : FS) : (OutS.brk e s).seq k = .brk e s := rfl
@[simp] theorem OutS.seq_cont (e : Env) (s : Store) (k : FS) : (OutS.cont e s).seq k = .cont e s := rfl
@[simp] theorem OutS.seq_exc (x : Ex) (e : Env) (s : Store) (k : FS) : (OutS.exc x e s).seq k = .exc x e s := rfl
@[simp] theorem OutS.seq_stuck (k : FS) : OutS.stuck.seq k = .stuck := rfl

def PostS (M : Md) (W : WX) (H : Hp) (φ : List Addr) (D : Ends) (o : OutS) : Prop :=
  match o with
  | .next e s => ∀ H' φ' σ', Ext H φ H' φ' → At M σ' H' e s φ' → D.nx σ' H'
  | .ret r s => ∀ H' φ' v, Ext H φ H' φ' → RS M.P M.w M.K H' φ' s → RR M.P M.w M.K H H' φ' r v → D.rt v H'
  | .brk e s => ∀ H' φ' σ', Ext H φ H' φ' → At M σ' H' e s φ' → D.bk σ' H'
  | .cont e s => ∀ H' φ' σ', Ext H φ H' φ' → At M σ' H' e s φ' → D.ct σ' H'
  | .exc x e s => ∀ H' φ' σ' c d, Ext H φ H' φ' → At M σ' H' e s φ' → RX M.mg M.K H' φ' x c d → W c d σ' H'
  | .stuck => False
def tS (M : Md) (W : WX) (g : FS) : TS := fun D σ H => ∃ env st φ, At M σ H env st φ ∧ PostS M W H φ D (g env st)
abbrev SS (X : Cx) (W : WX) (st : Stmt) (g : FS) : Prop := PS X st (tS X.md W g)
abbrev SSs (X : Cx) (W : WX) (sts : List Stmt) (g : FS) : Prop := PSs X sts (tS X.md W g)
theorem ps_imp {X : Cx} {s : Stmt} {t t' : TS} (h : PS X s t) (i : ∀ D σ H, t' D σ H → t D σ H) : PS X s t' := ⟨fun pins s σ H D I q => h.run pins s σ H D I (i D σ H q)⟩
theorem pss_imp {X : Cx} {s : List Stmt} {t t' : TS} (h : PSs X s t) (i : ∀ D σ H, t' D σ H → t D σ H) : PSs X s t' := ⟨fun pins s σ H D I q => h.run pins s σ H D I (i D σ H q)⟩
section
variable {M : Md} {W : WX} {H H1 : Hp} {φ φ1 : List Addr} {D D' : Ends} {o : OutS} {σ : L2.St} {env : Env} {st : Store}
theorem PostS.rebase (h : PostS M W H φ D o) (e : Ext H φ H1 φ1) : PostS M W H1 φ1 D o := by
  cases o with
  | next _ _ => exact fun H' φ' σ' e' => h H' φ' σ' (e.trans e')
  | ret _ _ => exact fun H' φ' v e' s r => h H' φ' v (e.trans e') s (r.from_ e)
  | brk _ _ => exact fun H' φ' σ' e' => h H' φ' σ' (e.trans e')
  | cont _ _ => exact fun H' φ' σ' e' => h H' φ' σ' (e.trans e')
  | exc _ _ _ => exact fun H' φ' σ' c d e' => h H' φ' σ' c d (e.trans e')
  | stuck => exact h
/-- the same end -/
theorem PostS.mono (h : PostS M W H φ D o) (nx : ∀ σ H, D.nx σ H → D'.nx σ H) (rt : ∀ v H, D.rt v H → D'.rt v H) (bk : ∀ σ H, D.bk σ H → D'.bk σ H) (ct : ∀ σ H, D.ct σ H → D'.ct σ H) : PostS M W H φ D' o := by
  cases o with
  | next _ _ => exact fun H' φ' σ' e a => nx _ _ (h H' φ' σ' e a)
  | ret _ _ => exact fun H' φ' v e s r => rt _ _ (h H' φ' v e s r)
  | brk _ _ => exact fun H' φ' σ' e a => bk _ _ (h H' φ' σ' e a)
  | cont _ _ => exact fun H' φ' σ' e a => ct _ _ (h H' φ' σ' e a)
  | exc _ _ _ => exact h
  | stuck => exact h
theorem PostS.bind {α : Type} {o : Out α} {k : α → Store → OutS} (a : At M σ H env st φ) (h : PostS M W H φ D (o.thenS env k)) : Post M W H φ σ o fun x _ _ st1 => PostS M W H φ D (k x st1) := by
  cases o with
  | ok x s => exact fun _ _ _ _ => h
  | exc x s => exact fun H' φ' c d e rs rx => h H' φ' σ c d e ⟨a.re.mono e.mono, rs⟩ rx
  | stuck => exact h
/-- an expression's value, then k -/
theorem tE_then {f : FE} {k : R → Store → OutS} {G : V → Hp → Prop} (a : At M σ H env st φ) (h : PostS M W H φ D ((f env st).thenS env k))
    (g : ∀ r st1 H1 φ1 v, Ext H φ H1 φ1 → At M σ H1 env st1 φ1 → RR M.P M.w M.K H H1 φ1 r v → PostS M W H φ D (k r st1) → G v H1) : tE M W f σ H G :=
  ⟨env, st, φ, a, (PostS.bind a h).mono fun r H1 φ1 st1 e s q v rr => g r st1 H1 φ1 v e (a.then e s) rr q⟩
end

/-! ### blocks, small statements -/
def fSkip : FS := fun env st => .next env st
def fSeq (g h : FS) : FS := fun env st => (g env st).seq h
def fExpr (f : FE) : FS := fun env st => (f env st).thenS env fun _ st1 => .next env st1
def fRet (f : FE) : FS := fun env st => (f env st).thenS env fun r st1 => .ret r st1
def fRetN : FS := fun _ st => .ret (.v .non) st
def fIfS (c : FB) (g h : FS) : FS := fun env st => (c env st).thenS env fun b st1 => if b = true then g env st1 else h env st1
def fSet (i : Nat) (f : FE) : FS := fun env st => (f env st).thenS env fun r st1 => .next (env.set i (some (alloc r st1).1)) (alloc r st1).2
def fBrk : FS := fun env st => .brk env st
def fCont : FS := fun env st => .cont env st
section
variable {X : Cx} {W : WX} {s : Stmt} {rest : List Stmt} {g h : FS} {e : Expr} {f : FE} {pos : Pos}
theorem sss_nil : SSs X W [] fSkip := pss_imp pss_nil fun D σ H ⟨env, st, φ, a, q⟩ => q H φ σ Ext.refl a
theorem sss_cons (h1 : SS X W s g) (h2 : SSs X W rest h) : SSs X W (s :: rest) (fSeq g h) := by
  refine pss_imp (pss_cons h1 h2) fun D σ H ⟨env, st, φ, a, q⟩ => ?_
  refine ⟨env, st, φ, a, ?_⟩
  unfold fSeq at q
  cases o : g env st with
  | next e s => rw [o] at q; exact fun H' φ' σ' e' a' => ⟨_, _, φ', a', PostS.rebase (o := h _ _) q e'⟩
  | ret r s => rw [o] at q; exact q
  | brk e s => rw [o] at q; exact q
  | cont e s => rw [o] at q; exact q
  | exc x e s => rw [o] at q; exact q
  | stuck => rw [o] at q; exact q
theorem sss_one (h1 : SS X W s g) : SSs X W [s] g := pss_one h1
theorem ss_pass : SS X W (.Pass pos) fSkip := ps_imp ps_pass fun D σ H ⟨env, st, φ, a, q⟩ => q H φ σ Ext.refl a
theorem ss_brk : SS X W (.Break pos) fBrk := ps_imp ps_break fun D σ H ⟨env, st, φ, a, q⟩ => q H φ σ Ext.refl a
theorem ss_cont : SS X W (.Continue pos) fCont := ps_imp ps_continue fun D σ H ⟨env, st, φ, a, q⟩ => q H φ σ Ext.refl a
theorem ss_expr (he : SE X W e f) (hs : swapsWith e none pos.line X.env = pure false := by rfl) : SS X W (.Expr e pos) (fExpr f) := by
  refine ps_imp (ps_expr he hs) fun D σ H ⟨env, st, φ, a, q⟩ => ?_
  exact tE_then a q fun r st1 H1 φ1 v e1 a1 rv q1 => q1 H1 φ1 σ e1 a1
theorem ss_ret (he : SE X W e f) : SS X W (.Return (some e) pos) (fRet f) := by
  refine ps_imp (ps_ret he) fun D σ H ⟨env, st, φ, a, q⟩ => ?_
  exact tE_then a q fun r st1 H1 φ1 v e1 a1 rv q1 => q1 H1 φ1 v e1 a1.rs rv
theorem ss_retN : SS X W (.Return none pos) fRetN := ps_imp ps_retN fun D σ H ⟨env, st, φ, a, q⟩ => q H φ .non Ext.refl a.rs .non
theorem ss_if {c : Expr} {x y : List Stmt} {fc : FB} (hc : SB X W c fc) (hx : SSs X W x g) (hy : SSs X W y h) : SS X W (.If c x y pos) (fIfS fc g h) := by
  refine ps_imp (ps_if hc hx hy) fun D σ H ⟨env, st, φ, a, q⟩ => ?_
  refine ⟨env, st, φ, a, (PostS.bind a q).mono fun b H1 φ1 st1 e1 s1 q1 => ?_⟩
  cases b with
  | true => exact ⟨env, st1, φ1, a.then e1 s1, PostS.rebase (o := g env st1) q1 e1⟩
  | false => exact ⟨env, st1, φ1, a.then e1 s1, PostS.rebase (o := h env st1) q1 e1⟩
theorem RE.set {K : PySem.W.Frag} {H : Hp} {φ : List Addr} {env : Env} {σ : L2.St} {i : Nat} {d : D} {v : V} (r : RE K H φ env σ) (h : RD K H φ d v) : RE K H φ (env.set i (some d)) (σ.set i (some v)) := by
  refine ⟨by simp [r.len], fun j d' e => ?_⟩
  by_cases q : i = j
  · subst q
    by_cases hi : i < env.length
    · rw [List.getElem?_set_self hi] at e
      cases e
      exact ⟨v, by rw [List.getElem?_set_self (by rw [← r.len]; exact hi)], h⟩
    · rw [List.getElem?_eq_none (by simp; omega)] at e; cases e
  · rw [List.getElem?_set_ne q] at e
    obtain ⟨v', e1, r1⟩ := r.get j d' e
    exact ⟨v', by rw [List.getElem?_set_ne q]; exact e1, r1⟩
/-- behind a store of a result -/
theorem set_ok {M : Md} {σ : L2.St} {H0 H H1 : Hp} {φ0 φ φ1 : List Addr} {env : Env} {st st1 : Store} {r : R} {v : V} {i : Nat} (a1 : At M σ H1 env st1 φ1) (e : Ext H φ H1 φ1) (rv : RR M.P M.w M.K H H1 φ1 r v) :
    ∃ φ2, Ext H φ H1 φ2 ∧ At M (σ.set i (some v)) H1 (env.set i (some (alloc r st1).1)) (alloc r st1).2 φ2 := by
  obtain ⟨φ2, s2, r2, e2, m2⟩ := alloc_ok a1.rs rv e
  exact ⟨φ2, e2, (a1.re.mono m2).set r2, s2⟩
theorem ss_set {i : Nat} {x : Str} {pos' : Pos} (hN : X.N.Nodup) (hi : X.N[i]? = some x) (hx : Loc X.env.scope x) (he : SE X W e f) (hs : swapsWith e (some (.Name x pos')) pos.line X.env = pure false := by rfl) (hf : X.fn x = true ∨ X.env.scope.names.lookup x = some .local := by first | exact .inl rfl | exact .inr rfl | assumption) :
    SS X W (.Assign [.Name x pos'] e pos) (fSet i f) := by
  refine ps_imp (ps_set hN hi hx he hs hf) fun D σ H ⟨env, st, φ, a, q⟩ => ?_
  refine tE_then a q fun r st1 H1 φ1 v e1 a1 rv q1 => ?_
  obtain ⟨φ2, e2, a2⟩ := set_ok (H0 := H) (φ0 := φ) (st := st) (i := i) a1 e1 rv
  exact q1 H1 φ2 _ e2 a2
end

/-! ### targets -/
abbrev FG := D → Env → Option Env
def tG (M : Md) (f : FG) : TG := fun v σ H Q => ∃ env st φ d env', At M σ H env st φ ∧ RD M.K H φ d v ∧ f d env = some env' ∧ ∀ σ', At M σ' H env' st φ → Q σ' H
abbrev SG (X : Cx) (tg : Expr) (f : FG) : Prop := PG X tg (tG X.md f)
abbrev FGs := List D → Env → Option Env
def tGs (M : Md) (f : FGs) : TGs := fun vs σ H Q => ∃ env st φ ds env', At M σ H env st φ ∧ RDs M.K H φ ds vs ∧ f ds env = some env' ∧ ∀ σ', At M σ' H env' st φ → Q σ' H
abbrev SGs (X : Cx) (ts : List Expr) (f : FGs) : Prop := PGs X ts (tGs X.md f)
def tgN (i : Nat) : FG := fun d env => some (env.set i (some d))
def tgNil : FGs := fun ds env => if ds.isEmpty then some env else none
def tgCons (f : FG) (g : FGs) : FGs := fun ds env => match ds with
  | [] => none
  | d :: ds => (f d env).bind (g ds)
def tgT (g : FGs) : FG := fun d env => match d with
  | .tup ds => g ds env
  | _ => none
section
variable {X : Cx} {pos : Pos}
theorem pg_imp {tg : Expr} {t t' : TG} (h : PG X tg t) (i : ∀ v σ H Q, t' v σ H Q → t v σ H Q) : PG X tg t' := ⟨fun pins s σ H v u Q I r q => h.run pins s σ H v u Q I r (i v σ H Q q)⟩
theorem pgs_imp {tg : List Expr} {t t' : TGs} (h : PGs X tg t) (i : ∀ v σ H Q, t' v σ H Q → t v σ H Q) : PGs X tg t' := ⟨fun pins s σ H v u Q I r q => h.run pins s σ H v u Q I r (i v σ H Q q)⟩
theorem sg_name {i : Nat} {x : Str} (hN : X.N.Nodup) (hi : X.N[i]? = some x) (hx : Loc X.env.scope x) (hf : X.fn x = true ∨ X.env.scope.names.lookup x = some .local := by first | exact .inl rfl | exact .inr rfl | assumption) : SG X (.Name x pos) (tgN i) :=
  pg_imp (pg_name hN hi hx hf) fun v σ H Q ⟨env, st, φ, d, env', a, r, e, q⟩ => by
    cases e
    exact q _ ⟨a.re.set r, a.rs⟩
theorem sgs_nil : SGs X [] tgNil := pgs_imp pgs_nil fun v σ H Q ⟨env, st, φ, ds, env', a, r, e, q⟩ => by
  unfold tgNil at e
  split at e
  · cases e
    rename_i z
    cases r with
    | nil => exact ⟨rfl, q _ a⟩
    | cons _ _ => cases z
  · cases e
theorem sgs_cons {e : Expr} {es : List Expr} {f : FG} {g : FGs} (h1 : SG X e f) (h2 : SGs X es g)
    (hs : (assignEach (e :: es) X.env).map (·.2) = assign e X.env :: (assignEach es X.env).map (·.2) := by rfl) : SGs X (e :: es) (tgCons f g) :=
  pgs_imp (pgs_cons h1 h2 hs) fun v σ H Q ⟨env, st, φ, ds, env', a, r, e, q⟩ => by
    cases r with
    | nil => cases e
    | @cons d ds v vs h t =>
      cases e1 : f d env with
      | none => simp [tgCons, e1] at e
      | some env1 =>
        simp only [tgCons, e1, Option.bind_some] at e
        exact ⟨v, vs, rfl, env, st, φ, d, env1, a, h, e1, fun σ' a' => ⟨env1, st, φ, ds, env', a', t, e, q⟩⟩
theorem sg_tup {es : List Expr} {k : Nat} {g : FGs} {n : Nat} (hc : X.calm = true) (h : SGs X es g) (hl : ∀ ds env env', g ds env = some env' → ds.length = n)
    (hn : (assignEach es X.env).length = n := by rfl) (hst : (assignEach es X.env).findIdx? (·.1) = none := by rfl) : SG X (.Tuple es k pos) (tgT g) :=
  pg_imp (pg_tup hc h hn hst) fun v σ H Q ⟨env, st, φ, d, env', a, r, e, q⟩ => by
    cases r with
    | @tup b vs ds ht hr =>
      exact ⟨b, vs, rfl, SqT.of ht, by rw [← hr.length]; exact hl ds env env' e, env, st, φ, ds, env', a, hr, e, q⟩
    | _ => cases e
theorem len_nil : ∀ ds env env', tgNil ds env = some env' → ds.length = 0 := fun ds env env' e => by
  unfold tgNil at e
  split at e
  · rename_i z; cases ds with
    | nil => rfl
    | cons _ _ => cases z
  · cases e
theorem len_cons {f : FG} {g : FGs} {n : Nat} (h : ∀ ds env env', g ds env = some env' → ds.length = n) : ∀ ds env env', tgCons f g ds env = some env' → ds.length = n + 1 := fun ds env env' e => by
  cases ds with
  | nil => cases e
  | cons d ds =>
    cases e1 : f d env with
    | none => simp [tgCons, e1] at e
    | some env1 =>
      simp only [tgCons, e1, Option.bind_some] at e
      simp [h _ _ _ e]
end
/-- target = value (a tuple target) -/
def fAsg (g : FG) (f : FE) : FS := fun env st => (f env st).thenS env fun r st1 => match g (alloc r st1).1 env with
  | some env' => .next env' (alloc r st1).2
  | none => .stuck
theorem ss_asg {X : Cx} {W : WX} {tg e : Expr} {f : FE} {g : FG} {pos : Pos} (he : SE X W e f) (hg : SG X tg g) (hs : swapsWithSole [tg] e pos.line X.env = pure false := by rfl) (hw : swappedStores [tg] e X.env = pure none := by rfl)
    (h1 : (assignEach [tg] X.env).map (·.2) = [assign tg X.env] := by rfl) : SS X W (.Assign [tg] e pos) (fAsg g f) := by
  refine ps_imp (ps_asg he hg hs hw h1) fun D σ H ⟨env, st, φ, a, q⟩ => ?_
  refine tE_then a q fun r st1 H1 φ1 v e1 a1 rv q1 => ?_
  obtain ⟨φ2, s2, r2, e2, m2⟩ := alloc_ok a1.rs rv e1
  split at q1
  · rename_i env' eg
    exact ⟨env, _, φ2, _, env', ⟨a1.re.mono m2, s2⟩, r2, eg, fun σ' a' => q1 H1 φ2 σ' e2 a'⟩
  · exact q1.elim

/-! ### a, b = x, y -/
def fPar (i j : Nat) (g : FA) : FS := fun env st => (g env st).thenS env fun ds st1 => match ds with
  | [d, e] => .next ((env.set i (some d)).set j (some e)) st1
  | _ => .stuck
theorem ss_par {X : Cx} {W : WX} {i j : Nat} {x y : Str} {a b : Expr} {g : FA} {px py pt pos : Pos} {kt k2 : Nat} {pt2 : Pos} (hc : X.calm = true) (hN : X.N.Nodup) (hi : X.N[i]? = some x) (hj : X.N[j]? = some y) (hij : i ≠ j)
    (hx : X.env.scope.names.lookup x = some .local) (hy : X.env.scope.names.lookup y = some .local) (ha : SA X W [a, b] g)
    (hw : swappedStores [.Tuple [.Name x px, .Name y py] kt pt] (.Tuple [a, b] k2 pt2) X.env = pure (some [x, y]))
    (hs : swapsWithSole [.Tuple [.Name x px, .Name y py] kt pt] (.Tuple [a, b] k2 pt2) pos.line X.env = pure false := by rfl) :
    SS X W (.Assign [.Tuple [.Name x px, .Name y py] kt pt] (.Tuple [a, b] k2 pt2) pos) (fPar i j g) := by
  refine ps_imp (ps_par hc hN hi hj hij hx hy ha hw hs) fun D σ H ⟨env, st, φ, a, q⟩ => ?_
  refine ⟨env, st, φ, a, (PostS.bind a q).mono fun ds H1 φ1 st1 e1 s1 q1 vs rv => ?_⟩
  split at q1
  · cases rv with
    | cons h1 t1 =>
      cases t1 with
      | cons h2 t2 =>
        cases t2
        exact ⟨_, _, rfl, q1 H1 φ1 _ e1 ⟨((a.re.mono e1.mono).set h1).set h2, s1⟩⟩
  · exact q1.elim

/-! ### writes -/
theorem Ext.write {P : Program} {w : World} {K : PySem.W.Frag} {H : Hp} {φ : List Addr} {o : O} {a : Addr} {n : Nat} {ho : HO} (r : RO P w K H φ o a) (h : φ[n]? = some a) : Ext H φ (upd H a ho) φ where
  pre := ⟨[], by simp, by simp⟩
  tup := fun b xs q => by
    by_cases e : b = a
    · subst e; exact (r.notT xs q).elim
    · rw [upd_ne e]; exact q
  frz := fun b ob u q => by
    by_cases e : b = a
    · subst e; exact (r.notF ob u q).elim
    · rw [upd_ne e]; exact q
  keep := fun b u q nb => by
    have e : b ≠ a := fun e => nb (by subst e; exact List.mem_of_getElem? h)
    rw [upd_ne e]; exact q
  trk := fun b u q => by
    by_cases e : b = a
    · subst e; exact ⟨_, upd_same⟩
    · exact ⟨u, by rw [upd_ne e]; exact q⟩
theorem ROs.put {P : Program} {w : World} {K : PySem.W.Frag} {H H' : Hp} {φ : List Addr} {o' : O} {a : Addr} (m : Mono K H φ H' φ) (k : ∀ b, b ≠ a → ∀ ho, H b = some ho → H' b = some ho) (r : RO P w K H' φ o' a) :
    ∀ {st : Store} {as : List Addr} {n : Nat}, ROs P w K H φ st as → as[n]? = some a → as.Nodup → ROs P w K H' φ (st.set n o') as
  | _, _, _, .nil, h, _ => by simp at h
  | _, _, 0, .cons h t, e, nd => by
    simp at e; subst e
    have nm := (List.nodup_cons.mp nd).1
    exact .cons r (t.stay m fun b hb ho q => k b (fun z => nm (z ▸ hb)) ho q)
  | _, _, n + 1, .cons h t, e, nd => by
    have e' := (by simpa using e : _)
    have nm := (List.nodup_cons.mp nd).1
    refine .cons (h.stay m fun ho q => k _ (fun z => nm (by rw [z]; exact List.mem_of_getElem? e')) ho q) ?_
    exact ROs.put m k r t e' (List.nodup_cons.mp nd).2
theorem RS.write {P : Program} {w : World} {K : PySem.W.Frag} {H : Hp} {φ : List Addr} {st : Store} {o o' : O} {a : Addr} {n : Nat} {ho : HO} (s : RS P w K H φ st) (h : φ[n]? = some a) (r : RO P w K H φ o a) (r' : RO P w K (upd H a ho) φ o' a) :
    RS P w K (upd H a ho) φ (st.set n o') :=
  ⟨s.nd, s.os.put (Ext.write (o := o) r h).mono (fun b e u q => by rw [upd_ne e]; exact q) r' h s.nd⟩

/-! ### o[i] = e -/
/-- the store behind o[i] = d -/
def putAt (ro : R) (k : R) (d : D) (st : Store) : Option Store := match ro, k with
  | .v (.ref n), .v k => match st[n]? with
    | some (.lst xs) => match k with
      | .int i => (ixN xs.length i).map fun j => st.set n (.lst (xs.set j d))
      | _ => none
    | some (.dK kvs) => if kvs.length < 1000000 then k.key.map fun k => st.set n (.dK (putD kvs k d)) else none
    | some (.dT kvs) => if kvs.length < 1000000 then k.keyT.map fun k => st.set n (.dT (putD kvs k d)) else none
    | _ => none
  | _, _ => none
def fPut (f fo fi : FE) : FS := fun env st => (f env st).thenS env fun r st1 => (fo env (alloc r st1).2).thenS env fun ro st2 => (fi env st2).thenS env fun rk st3 => match putAt ro rk (alloc r st1).1 st3 with
  | some st4 => .next env st4
  | none => .stuck
section
variable {X : Cx} {W : WX}
def rSetD : TSet := fun o i v H Q => ∃ a H', o = .ref a ∧ DPut H a i v H' ∧ Q H'
theorem set_dict (C : Cd X) : PSet X rSetD := by
  rintro pins s σ H o i v ov iv u Q I ro ri rv ⟨a, H', rfl, g, q⟩
  obtain rfl : ov = Value.ref a := ro
  have hu := C.hu
  exact d_setItem (by omega) I g ri rv fun s3 I3 => ⟨H', I3, q⟩
theorem PSet.or {t t' : TSet} (h : PSet X t) (h' : PSet X t') : PSet X (fun o i v H Q => t o i v H Q ∨ t' o i v H Q) := by
  intro pins s σ H o i v ov iv u Q I ro ri rv q
  rcases q with q | q
  · exact h pins s σ H o i v ov iv u Q I ro ri rv q
  · exact h' pins s σ H o i v ov iv u Q I ro ri rv q
def rSet2 : TSet := fun o i v H Q => rSetL o i v H Q ∨ rSetD o i v H Q
theorem set_any (C : Cd X) : PSet X rSet2 := PSet.or set_list (set_dict C)
theorem putAt_ok {M : Md} {H H0 H0' : Hp} {φ : List Addr} {st st' : Store} {ro rk : R} {d : D} {o i v : V} {Q : Hp → Prop} (s : RS M.P M.w M.K H φ st) (h1 : RR M.P M.w M.K H0 H φ ro o) (h2 : RR M.P M.w M.K H0' H φ rk i) (h3 : RD M.K H φ d v) (e : putAt ro rk d st = some st')
    (q : ∀ H', Ext H φ H' φ → RS M.P M.w M.K H' φ st' → Q H') : rSet2 o i v H Q := by
  unfold putAt at e
  split at e
  · rename_i n k
    obtain ⟨a, ob, rfl, e1, e2, r⟩ := s.of_ref h1
    simp only [e2] at e
    cases r with
    | lst hq t =>
      rename_i xs vs
      simp only at e
      split at e
      · rename_i j
        cases e3 : ixN xs.length j with
        | none => rw [e3] at e; cases e
        | some m =>
          rw [e3] at e; cases e
          rw [int_ok h2]
          have ew : Ext H φ (upd H a (.lst (vs.set m v))) φ := Ext.write (.lst hq t : RO M.P M.w M.K H φ _ a) e1
          refine .inl ⟨a, vs, j, m, rfl, rfl, hq, by rw [← t.length]; exact e3, q _ ew (s.write e1 (.lst hq t) (.lst upd_same ?_))⟩
          exact (t.mono ew.mono).set (h3.mono ew.mono) m
      · cases e
    | dK hq t =>
      rename_i kvs kws
      simp only at e
      split at e
      · rename_i hl
        cases e3 : k.key with
        | none => rw [e3] at e; cases e
        | some k' =>
          rw [e3] at e; cases e
          have ei : i = kV k' := key_ok h2 e3
          subst ei
          have ew : Ext H φ (upd H a (.dK (putK kws k' v))) φ := Ext.write (.dK hq t : RO M.P M.w M.K H φ _ a) e1
          refine .inr ⟨a, _, rfl, DPut.k hq (by rw [← t.length]; exact line_of' hl), q _ ew (s.write e1 (.dK hq t) (.dK upd_same ?_))⟩
          exact (t.mono ew.mono).put k' (h3.mono ew.mono)
      · cases e
    | dT hq t =>
      rename_i kvs kws
      simp only at e
      split at e
      · rename_i hl
        cases e3 : k.keyT with
        | none => rw [e3] at e; cases e
        | some k' =>
          rw [e3] at e; cases e
          cases k with
          | tup xs =>
            cases h2 with
            | tup hq2 hr2 =>
              rename_i b ws
              have ev := keys_ok hr2 e3
              subst ev
              have ew : Ext H φ (upd H a (.dT (putK kws k' v))) φ := Ext.write (.dT hq t : RO M.P M.w M.K H φ _ a) e1
              refine .inr ⟨a, _, rfl, DPut.t hq hq2 (by rw [← t.length]; exact line_of' hl), q _ ew (s.write e1 (.dT hq t) (.dT upd_same ?_))⟩
              exact (t.mono ew.mono).put k' (h3.mono ew.mono)
          | _ => cases e3
      · cases e
    | sT _ _ _ => simp only at e; cases e
    | sI _ _ _ _ => simp only at e; cases e
  · cases e
theorem ss_put {o i e : Expr} {fo fi f : FE} {pos pos' : Pos} (C : Cd X) (he : SE X W e f) (ho : SE X W o fo) (hi : SE X W i fi)
    (ha : ∀ v, assign (.Subscript o i pos') X.env v = (do
      let ov ← holding [v] (eval o X.env)
      let iv ← holding [v, ov] (eval i X.env)
      standAt pos'
      holding [v, ov, iv] (setItem ov iv v)
      release [v, ov, iv] []) := by intro _; rfl)
    (hs : swapsWithSole [.Subscript o i pos'] e pos.line X.env = pure false := by rfl) (hw : swappedStores [.Subscript o i pos'] e X.env = pure none := by rfl)
    (h1 : (assignEach [.Subscript o i pos'] X.env).map (·.2) = [assign (.Subscript o i pos') X.env] := by rfl) : SS X W (.Assign [.Subscript o i pos'] e pos) (fPut f fo fi) := by
  refine ps_imp (ps_asg he (pg_sub ho hi (set_any C) ha) hs hw h1) fun D σ H ⟨env, st, φ, a, q⟩ => ?_
  refine tE_then a q fun r st1 H1 φ1 v e1 a1 rv q1 => ?_
  obtain ⟨φ1', s1', r1', e1', m1'⟩ := alloc_ok a1.rs rv e1
  have a1' : At X.md σ H1 env (alloc r st1).2 φ1' := ⟨a1.re.mono m1', s1'⟩
  refine tE_then a1' (PostS.rebase q1 e1') fun ro st2 H2 φ2 o' e2 a2 rro q2 => ?_
  refine tE_then a2 (PostS.rebase q2 e2) fun rk st3 H3 φ3 i' e3 a3 rrk q3 => ?_
  split at q3
  · rename_i st4 e4
    refine putAt_ok (M := X.md) a3.rs (rro.mono e3) rrk ((r1'.mono e2.mono).mono e3.mono) e4 fun H' e5 s5 => ?_
    exact q3 H' φ3 σ (e3.trans e5) (a3.then e5 s5)
  · exact q3.elim
end
end Fx

set_option Elab.async false
set_option linter.all false
set_option maxRecDepth 100000
set_option maxHeartbeats 4000000
set_option autoImplicit false
/-! Fx, part H: what is walked; for, while, comprehensions. -/
namespace Fx
open PySem PySem.Spec PyProof.Rows L2

/-- the items walked; ok: what must stand as it is while they are walked -/
structure Sq where
  xs : List D
  ok : Store → Prop
/-- nothing is asked of the store -/
abbrev Sq.any : Store → Prop := fun _ => True
/-- a list of the store stands so -/
def Sq.at (n : Nat) (xs : List D) : Store → Prop := fun st => st[n]? = some (.lst xs)
abbrev FI := Env → Store → Out Sq
/-- the walk J, from (H0, φ0) on, gives these items -/
structure Src (M : Md) (H0 : Hp) (φ0 : List Addr) (q : Sq) (J : It) : Prop where
  goes : ∀ i H φ st, i < q.xs.length → Ext H0 φ0 H φ → RS M.P M.w M.K H φ st → q.ok st → J.go i H
  stops : ∀ H φ st, Ext H0 φ0 H φ → RS M.P M.w M.K H φ st → q.ok st → J.stop q.xs.length H
  yields : ∀ i H φ st x H', i < q.xs.length → Ext H0 φ0 H φ → RS M.P M.w M.K H φ st → q.ok st → J.yld i H x H' → Ext H φ H' φ ∧ RS M.P M.w M.K H' φ st ∧ ∃ d, q.xs[i]? = some d ∧ RD M.K H' φ d x
def tI (M : Md) (W : WX) (f : FI) : TI := fun σ H R => ∃ env st φ, At M σ H env st φ ∧ Post M W H φ σ (f env st) fun q H' φ' _ => ∀ J, Src M H' φ' q J → R J H'
abbrev SI (X : Cx) (W : WX) (tg iter : Expr) (f : FI) : Prop := PI X tg iter (tI X.md W f)
theorem pi_imp {X : Cx} {tg e : Expr} {t t' : TI} (h : PI X tg e t) (i : ∀ σ H Q, t' σ H Q → t σ H Q) : PI X tg e t' := ⟨fun pins s σ H Q I q => h.run pins s σ H Q I (i σ H Q q)⟩
theorem tE_src {M : Md} {W : WX} {σ : L2.St} {H : Hp} {env : Env} {st : Store} {φ : List Addr} {f : FE} {k : R → Store → Out Sq} {G : V → Hp → Prop} {S : Sq → Hp → List Addr → Store → Prop} (a : At M σ H env st φ) (h : Post M W H φ σ ((f env st).bind k) S)
    (g : ∀ r st1 H1 φ1 v, Ext H φ H1 φ1 → At M σ H1 env st1 φ1 → RR M.P M.w M.K H H1 φ1 r v → Post M W H1 φ1 σ (k r st1) S → G v H1) : tE M W f σ H G :=
  ⟨env, st, φ, a, (Post.bind h).mono fun r H1 φ1 st1 e s q v rr => g r st1 H1 φ1 v e (a.then e s) rr q⟩

/-! ### a list or a tuple -/
def sqOf (r : R) (st : Store) : Out Sq := match r with
  | .v (.tup xs) => .ok ⟨xs, Sq.any⟩ st
  | .v (.ref n) => match st[n]? with
    | some (.lst xs) => .ok ⟨xs, Sq.at n xs⟩ st
    | _ => .stuck
  | r => match seqL st r with
    | some xs => .ok ⟨xs, Sq.any⟩ st
    | none => .stuck
def fIt (f : FE) : FI := fun env st => (f env st).bind sqOf
def iSeq (K : PySem.W.Frag) (tl : TE) : TI := fun σ H R => tl σ H fun x H1 => ∃ a, x = .ref a ∧ (((∃ xs, SqL K H1 a xs) ∧ R (Itl K a) H1) ∨ ((∃ xs, SqT K H1 a xs) ∧ R (Itt K a) H1))
theorem pi_seq {X : Cx} {tg l : Expr} {tl : TE} (hl : PE X l tl) : PI X tg l (iSeq X.K tl) := by
  refine ⟨fun pins s σ H R I h => ?_⟩
  refine thn (hl.run pins s σ H _ I h) fun v s1 ⟨x, H1, I1, r1, q1⟩ => ?_
  obtain ⟨a, e, ⟨⟨xs, hq⟩, q⟩ | ⟨⟨xs, hq⟩, q⟩⟩ := q1
  · subst e
    cases r1
    obtain ⟨its, rv, p, hz⟩ := I1.list hq
    refine wpAny_pyIter_list p.isList ?_
    refine ⟨s1.heap.objs.size, [s1.heap.objs.size], _, _, H1, rfl, I1.kept (t' := s1.toks) fun b o e => Heap.get?_push_of_some _ e, turn_list a _, ⟨_, Heap.get?_push_size _ rfl, rfl, rfl⟩, fun b hb => ?_, q⟩
    have e : b = s1.heap.objs.size := by simpa using hb
    subst e
    exact I1.fpOk (Nat.le_refl _) (I1.hok.fresh (Nat.le_refl _))
  · subst e
    cases r1
    obtain ⟨its, rv, p, hz⟩ := I1.tuple hq
    refine wpAny_pyIter_tuple (show s1.heap.IsTuple a its.toArray from p) ?_
    refine ⟨s1.heap.objs.size, [s1.heap.objs.size], _, _, H1, rfl, I1.kept (t' := s1.toks) fun b o e => Heap.get?_push_of_some _ e, turn_tuple a _, ⟨_, Heap.get?_push_size _ rfl, rfl, rfl⟩, fun b hb => ?_, q⟩
    have e : b = s1.heap.objs.size := by simpa using hb
    subst e
    exact I1.fpOk (Nat.le_refl _) (I1.hok.fresh (Nat.le_refl _))
section
variable {M : Md} {H0 : Hp} {φ0 : List Addr} {a : Addr} {xs : List D} {vs : List V}
/-- a list that stands still -/
theorem src_list (hs : ∀ H φ, Ext H0 φ0 H φ → SqL M.K H a vs) (t : RDs M.K H0 φ0 xs vs) : Src M H0 φ0 ⟨xs, Sq.any⟩ (Itl M.K a) where
  goes := fun i H φ st hi e s _ => by
    have hl : i < vs.length := by rw [← t.length]; exact hi
    exact ⟨vs, vs[i], hs H φ e, List.getElem?_eq_getElem hl⟩
  stops := fun H φ st e s _ => ⟨vs, hs H φ e, by rw [← t.length]; exact Nat.le_refl _⟩
  yields := fun i H φ st x H' hi e s _ y => by
    obtain ⟨rfl, y⟩ := y
    obtain ⟨d, e1, r⟩ := t.get' (y vs (hs H' φ e))
    exact ⟨Ext.refl, s, d, e1, r.mono e.mono⟩
theorem src_tup (h : H0 a = some (.tup vs)) (t : RDs M.K H0 φ0 xs vs) : Src M H0 φ0 ⟨xs, Sq.any⟩ (Itt M.K a) where
  goes := fun i H φ st hi e s _ => by
    have hl : i < vs.length := by rw [← t.length]; exact hi
    exact ⟨vs, vs[i], SqT.of (e.tup _ _ h), List.getElem?_eq_getElem hl⟩
  stops := fun H φ st e s _ => ⟨vs, SqT.of (e.tup _ _ h), by rw [← t.length]; exact Nat.le_refl _⟩
  yields := fun i H φ st x H' hi e s _ y => by
    obtain ⟨rfl, y⟩ := y
    obtain ⟨d, e1, r⟩ := t.get' (y vs (SqT.of (e.tup _ _ h)))
    exact ⟨Ext.refl, s, d, e1, r.mono e.mono⟩
theorem src_live {n : Nat} (h : φ0[n]? = some a) : Src M H0 φ0 ⟨xs, Sq.at n xs⟩ (Itl M.K a) := by
  have key : ∀ H φ st, Ext H0 φ0 H φ → RS M.P M.w M.K H φ st → Sq.at n xs st → ∃ vs, SqL M.K H a vs ∧ RDs M.K H φ xs vs := fun H φ st e s ok => by
    obtain ⟨o, e1, r⟩ := s.os.get (e.get h)
    have e2 := ok
    unfold Sq.at at e2
    rw [e1] at e2; cases e2
    cases r with
    | lst q t => exact ⟨_, SqL.of q, t⟩
  exact {
    goes := fun i H φ st hi e s ok => by
      obtain ⟨vs, q, t⟩ := key H φ st e s ok
      have hl : i < vs.length := by rw [← t.length]; exact hi
      exact ⟨vs, vs[i], q, List.getElem?_eq_getElem hl⟩
    stops := fun H φ st e s ok => by
      obtain ⟨vs, q, t⟩ := key H φ st e s ok
      exact ⟨vs, q, by rw [← t.length]; exact Nat.le_refl _⟩
    yields := fun i H φ st x H' hi e s ok y => by
      obtain ⟨rfl, y⟩ := y
      obtain ⟨vs, q, t⟩ := key H' φ st e s ok
      obtain ⟨d, e1, r⟩ := t.get' (y vs q)
      exact ⟨Ext.refl, s, d, e1, r⟩ }
theorem src_range {lo : Int} {n : Nat} : Src M H0 φ0 ⟨(List.range n).map fun i => .int (lo + (i : Nat)), Sq.any⟩ (Itr lo n) where
  goes := fun i H φ st hi e s _ => by
    have : i < n := by simpa using hi
    exact this
  stops := fun H φ st e s _ => by
    show n ≤ _
    simp
  yields := fun i H φ st x H' hi e s _ y => by
    obtain ⟨rfl, rfl⟩ := y
    have : i < n := by simpa using hi
    exact ⟨Ext.refl, s, .int (lo + (i : Nat)), by simp [this], .int _⟩
end
theorem si_seq {X : Cx} {W : WX} {tg e : Expr} {f : FE} (he : SE X W e f) : SI X W tg e (fIt f) := by
  refine pi_imp (pi_seq he) fun σ H R ⟨env, st, φ, a, q⟩ => ?_
  refine tE_src a q fun r st1 H1 φ1 v e1 a1 rv q1 => ?_
  unfold sqOf at q1
  split at q1
  · obtain ⟨b, vs, rfl, h, t⟩ := tup_ok rv
    exact ⟨b, rfl, .inr ⟨⟨vs, SqT.of h⟩, q1 H1 φ1 Ext.refl a1.rs _ (src_tup h t)⟩⟩
  · obtain ⟨b, o, rfl, h1, h2, h3⟩ := a1.rs.of_ref rv
    rw [h2] at q1
    cases h3 with
    | lst h t => exact ⟨b, rfl, .inl ⟨⟨_, SqL.of h⟩, q1 H1 φ1 Ext.refl a1.rs _ (src_live h1)⟩⟩
    | _ => exact q1.elim
  · split at q1
    · rename_i xs es
      cases r with
      | o x =>
        obtain ⟨b, rfl, hx, n, z⟩ := rv
        cases hx with
        | lst h t =>
          cases es
          exact ⟨b, rfl, .inl ⟨⟨_, SqL.of h⟩, q1 H1 φ1 Ext.refl a1.rs _ (src_list (fun H φ e => SqL.of (e.keep _ _ h n)) t)⟩⟩
        | _ => cases es
      | v d =>
        cases d with
        | lz ys =>
          cases es
          cases rv with
          | lz h t =>
            exact ⟨_, rfl, .inl ⟨⟨_, h.sq⟩, q1 H1 φ1 Ext.refl a1.rs _ (src_list (fun H φ e => (e.fzL h).sq) t)⟩⟩
        | _ => first | cases es | (rename_i h1 h2; exact (h1 _ rfl).elim) | (rename_i h1 h2; exact (h2 _ rfl).elim)
    · exact q1.elim
/-! ### ranges -/
def rngD (lo : Int) (n : Nat) : List D := (List.range n).map fun i => .int (lo + (i : Nat))
def fRng1 (f : FE) : FI := fun env st => (f env st).bind fun r st1 => match r with
  | .v (.int j) => if j < 1000000000 ∧ -1000000000 < j then .ok ⟨rngD 0 j.toNat, Sq.any⟩ st1 else .stuck
  | _ => .stuck
def fRng2 (f g : FE) : FI := fun env st => (f env st).bind fun r st1 => (g env st1).bind fun r2 st2 => match r, r2 with
  | .v (.int i), .v (.int j) => if (i < 1000000000 ∧ -1000000000 < i) ∧ (j < 1000000000 ∧ -1000000000 < j) then .ok ⟨rngD i (j - i).toNat, Sq.any⟩ st2 else .stuck
  | _, _ => .stuck
section
variable {X : Cx} {W : WX} {tg a b : Expr} {f g : FE} {p pos : Pos}
theorem tE_src2 {M : Md} {σ : L2.St} {H : Hp} {env : Env} {st : Store} {φ : List Addr} {f : FE} {k : R → Store → Out Sq} {G : V → Hp → Prop} {S : Sq → Hp → List Addr → Store → Prop} (a : At M σ H env st φ) (h : Post M W H φ σ ((f env st).bind k) S)
    (g : ∀ r st1 H1 φ1 v, Ext H φ H1 φ1 → At M σ H1 env st1 φ1 → RR M.P M.w M.K H H1 φ1 r v → Post M W H1 φ1 σ (k r st1) S → G v H1) : tE M W f σ H G := tE_src a h g
theorem si_rng1 (hg : Gl X "range") (hm : X.mg "range" = none) (ha : SE X W a f) (hs : starEach [a] X.env = [(false, eval a X.env)] := by rfl) : SI X W tg (.Call (.Name "range" p) [a] [] pos) (fRng1 f) := by
  refine pi_imp (pi_range1 hg hm (pa_cons ha pa_nil hs) hs) fun σ H R ⟨env, st, φ, a, q⟩ => ?_
  refine tE_src a q fun r st1 H1 φ1 v e1 a1 rv q1 => ?_
  split at q1
  · split at q1
    · rename_i j hj
      rw [int_ok rv]
      exact ⟨j, rfl, by omega, by omega, q1 H1 φ1 Ext.refl a1.rs _ src_range⟩
    · exact q1.elim
  · exact q1.elim
theorem si_rng2 (hg : Gl X "range") (hm : X.mg "range" = none) (ha : SE X W a f) (hb : SE X W b g) (hs : starEach [a, b] X.env = [(false, eval a X.env), (false, eval b X.env)] := by rfl) (hs2 : starEach [b] X.env = [(false, eval b X.env)] := by rfl) :
    SI X W tg (.Call (.Name "range" p) [a, b] [] pos) (fRng2 f g) := by
  refine pi_imp (pi_range2 hg hm (pa_cons ha (pa_cons hb pa_nil hs2) (by rw [hs, hs2])) hs hs2) fun σ H R ⟨env, st, φ, a, q⟩ => ?_
  refine tE_src a q fun r st1 H1 φ1 v e1 a1 rv q1 => ?_
  refine tE_src a1 q1 fun r2 st2 H2 φ2 v2 e2 a2 rv2 q2 => ?_
  split at q2
  · split at q2
    · rename_i i j hj
      rw [int_ok rv, int_ok rv2]
      exact ⟨i, j, rfl, by omega, q2 H2 φ2 Ext.refl a2.rs _ src_range⟩
    · exact q2.elim
  · exact q2.elim
end

/-! ### for -/
open Classical in
/-- names that had no value ahead of a loop have none behind it -/
def scope (e0 e : Env) : Env := List.zipWith (fun a b => if a.isNone then none else b) e0 e
theorem RE.scope {K : PySem.W.Frag} {H : Hp} {φ : List Addr} {e0 e : Env} {σ : L2.St} (r : RE K H φ e σ) (h : e0.length = e.length) : RE K H φ (scope e0 e) σ := by
  refine ⟨by unfold Fx.scope; rw [List.length_zipWith, h, Nat.min_self]; exact r.len, fun i d q => ?_⟩
  unfold Fx.scope at q
  rw [List.getElem?_zipWith] at q
  cases e1 : e0[i]? with
  | none => simp [e1] at q
  | some a =>
    cases e2 : e[i]? with
    | none => simp [e1, e2] at q
    | some b =>
      simp only [e1, e2] at q
      have q' : (if a.isNone = true then none else b) = some d := Option.some.inj q
      split at q'
      · cases q'
      · subst q'
        exact r.get i d e2
open Classical in
/-- one turn after another; e0: the names ahead of the loop -/
noncomputable def forL (ok : Store → Prop) (tg : FG) (body : FS) (e0 : Env) : List D → FS
  | [], env, st => if ok st ∧ e0.length = env.length then .next (scope e0 env) st else .stuck
  | d :: ds, env, st => if ok st ∧ e0.length = env.length then
      match tg d (scope e0 env) with
      | some env1 => match body env1 st with
        | .next e s => forL ok tg body e0 ds e s
        | .cont e s => forL ok tg body e0 ds e s
        | .brk e s => if e0.length = e.length then .next (scope e0 e) s else .stuck
        | .ret r s => .ret r s
        | .exc x e s => .exc x e s
        | .stuck => .stuck
      | none => .stuck
    else .stuck
noncomputable def fFor (f : FI) (tg : FG) (body : FS) : FS := fun env st => (f env st).thenS env fun q st1 => forL q.ok tg body env q.xs env st1
section
variable {X : Cx} {W : WX} {tg iter : Expr} {f : FI} {g : FG} {b : FS} {body : List Stmt} {pos : Pos}
theorem Ext.rs_len {P : Program} {w : World} {K : PySem.W.Frag} {H : Hp} {φ : List Addr} {st : Store} (s : RS P w K H φ st) : st.length = φ.length := s.len
theorem ss_for (hp : PassesOwn (model X.prog X.w) X.A X.env X.xe) (hc : X.calm = true) (hi : SI X W tg iter f) (hg : SG X tg g) (hb : SSs X W body b)
    (hs : ∀ x, foldedSetIterable iter X.env x = pure x := by intro _; rfl) : SS X W (.For tg iter body [] pos) (fFor f g b) := by
  refine ps_imp (ps_for hp hc hi hg hb hs) fun D σ H ⟨env, st, φ, a, q⟩ => ?_
  refine ⟨env, st, φ, a, (PostS.bind a q).mono fun q H1 φ1 st1 e1 s1 q1 J src => ?_⟩
  have q1' := PostS.rebase q1 e1
  refine ⟨fun i m σ' H' => m = q.xs.length - i ∧ i ≤ q.xs.length ∧ ∃ env' st' φ', At X.md σ' H' env' st' φ' ∧ Ext H1 φ1 H' φ' ∧ PostS X.md W H' φ' D (forL q.ok g b env (q.xs.drop i) env' st'),
    ⟨q.xs.length, by simp, Nat.zero_le _, env, st1, φ1, a.then e1 s1, Ext.refl, by simpa using q1'⟩, ?_⟩
  rintro i m σ' H' ⟨rfl, hi, env', st', φ', a', e', p⟩
  by_cases hlt : i < q.xs.length
  · have ed : q.xs.drop i = q.xs[i] :: q.xs.drop (i + 1) := List.drop_eq_getElem_cons hlt
    rw [ed] at p
    unfold forL at p
    split at p
    · rename_i c
      obtain ⟨ok, hl⟩ := c
      refine .inr ⟨src.goes i H' φ' st' hlt e' a'.rs ok, fun σ2 H2 => ∃ m', m' < q.xs.length - i ∧ m' = q.xs.length - (i + 1) ∧ i + 1 ≤ q.xs.length ∧ ∃ env2 st2 φ2, At X.md σ2 H2 env2 st2 φ2 ∧ Ext H1 φ1 H2 φ2 ∧ PostS X.md W H2 φ2 D (forL q.ok g b env (q.xs.drop (i + 1)) env2 st2), fun σ2 H2 n => ?_, fun x H2 y => ?_⟩
      · obtain ⟨m', h1, h2⟩ := n
        exact ⟨m', h1, h2⟩
      · obtain ⟨ex, sx, d, ed2, rd⟩ := src.yields i H' φ' st' x H2 hlt e' a'.rs ok y
        have hd : d = q.xs[i] := by rw [List.getElem?_eq_getElem hlt] at ed2; exact (Option.some.inj ed2).symm
        subst hd
        have a2 : At X.md σ' H2 (scope env env') st' φ' := ⟨(a'.re.mono ex.mono).scope hl, sx⟩
        split at p
        · rename_i env1 eg
          refine ⟨_, st', φ', _, env1, a2, rd, eg, fun σ3 a3 => ⟨env1, st', φ', a3, ?_⟩⟩
          have ee : Ext H1 φ1 H2 φ' := e'.trans ex
          have nx : ∀ {e s H4 φ4 σ4}, PostS X.md W H' φ' D (forL q.ok g b env (q.xs.drop (i + 1)) e s) → Ext H2 φ' H4 φ4 → At X.md σ4 H4 e s φ4 →
              ∃ m', m' < q.xs.length - i ∧ m' = q.xs.length - (i + 1) ∧ i + 1 ≤ q.xs.length ∧ ∃ env2 st2 φ2, At X.md σ4 H4 env2 st2 φ2 ∧ Ext H1 φ1 H4 φ2 ∧ PostS X.md W H4 φ2 D (forL q.ok g b env (q.xs.drop (i + 1)) env2 st2) :=
            fun {e s H4 φ4 σ4} p4 e4 a4 => ⟨_, by omega, rfl, hlt, e, s, φ4, a4, ee.trans e4, PostS.rebase p4 (ex.trans e4)⟩
          cases o : b env1 st' with
          | next e s => rw [o] at p; exact fun H4 φ4 σ4 e4 a4 => nx p e4 a4
          | cont e s => rw [o] at p; exact fun H4 φ4 σ4 e4 a4 => nx p e4 a4
          | brk e s =>
            rw [o] at p
            simp only at p
            split at p
            · rename_i hl2
              exact fun H4 φ4 σ4 e4 a4 => p H4 φ4 σ4 (ex.trans e4) ⟨a4.re.scope hl2, a4.rs⟩
            · exact p.elim
          | ret r s => rw [o] at p; exact PostS.rebase (o := .ret r s) p ex
          | exc x e s => rw [o] at p; exact PostS.rebase (o := .exc x e s) p ex
          | stuck => rw [o] at p; exact p
        · exact p.elim
    · exact p.elim
  · have ei : i = q.xs.length := by omega
    subst ei
    rw [List.drop_length] at p
    unfold forL at p
    split at p
    · rename_i c
      exact .inl ⟨src.stops H' φ' st' e' a'.rs c.1, p H' φ' σ' Ext.refl ⟨a'.re.scope c.2, a'.rs⟩⟩
    · exact p.elim
end

/-! ### while -/
open Classical in
noncomputable def whileL (c : FB) (body : FS) (e0 : Env) : Nat → FS
  | 0, _, _ => .stuck
  | n + 1, env, st => (c env st).thenS env fun b st1 => if b = true then
      match body env st1 with
      | .next e s => if e0.length = e.length then whileL c body e0 n (scope e0 e) s else .stuck
      | .cont e s => if e0.length = e.length then whileL c body e0 n (scope e0 e) s else .stuck
      | .brk e s => if e0.length = e.length then .next (scope e0 e) s else .stuck
      | .ret r s => .ret r s
      | .exc x e s => .exc x e s
      | .stuck => .stuck
    else .next env st1
open Classical in
noncomputable def fWhile (c : FB) (body : FS) : FS := fun env st =>
  if h : ∃ n, whileL c body env n env st ≠ .stuck then whileL c body env (Classical.choose h) env st else .stuck
theorem whileL_mono (c : FB) (body : FS) (e0 : Env) : ∀ (n : Nat) (env : Env) (st : Store), whileL c body e0 n env st ≠ .stuck → whileL c body e0 (n + 1) env st = whileL c body e0 n env st
  | 0, env, st, h => (h rfl).elim
  | n + 1, env, st, h => by
    rw [whileL]
    conv => rhs; rw [whileL]
    rw [whileL] at h
    cases o : c env st with
    | exc x s => rfl
    | stuck => rfl
    | ok b s =>
      rw [o] at h
      simp only [Out.thenS_ok] at h ⊢
      cases b with
      | false => rfl
      | true =>
        simp only [if_true] at h ⊢
        cases o2 : body env s with
        | next e s2 =>
          rw [o2] at h
          simp only at h ⊢
          split
          · rename_i hl
            rw [if_pos hl] at h
            exact whileL_mono c body e0 n _ _ h
          · rfl
        | cont e s2 =>
          rw [o2] at h
          simp only at h ⊢
          split
          · rename_i hl
            rw [if_pos hl] at h
            exact whileL_mono c body e0 n _ _ h
          · rfl
        | _ => rfl
theorem whileL_le (c : FB) (body : FS) (e0 : Env) (n k : Nat) (env : Env) (st : Store) (h : whileL c body e0 n env st ≠ .stuck) : whileL c body e0 (n + k) env st = whileL c body e0 n env st := by
  induction k with
  | zero => rfl
  | succ k ih => rw [← Nat.add_assoc, whileL_mono c body e0 (n + k) env st (by rw [ih]; exact h), ih]
theorem fWhile_eq {c : FB} {body : FS} {env : Env} {st : Store} {o : OutS} (n : Nat) (h : whileL c body env n env st = o) (ho : o ≠ .stuck) : fWhile c body env st = o := by
  have ex : ∃ n, whileL c body env n env st ≠ .stuck := ⟨n, by rw [h]; exact ho⟩
  unfold fWhile
  rw [dif_pos ex]
  have hc := Classical.choose_spec ex
  rcases Nat.le_total n (Classical.choose ex) with q | q
  · obtain ⟨k, e⟩ := Nat.exists_eq_add_of_le q
    rw [e, whileL_le c body env n k env st (by rw [h]; exact ho), h]
  · obtain ⟨k, e⟩ := Nat.exists_eq_add_of_le q
    rw [← h]
    have := whileL_le c body env (Classical.choose ex) k env st hc
    rw [← e] at this
    exact this.symm
section
variable {X : Cx} {W : WX} {c : Expr} {fc : FB} {b : FS} {body : List Stmt} {pos : Pos}
theorem ss_while (hp : PassesOwn (model X.prog X.w) X.A X.env X.xe) (hc : SB X W c fc) (hb : SSs X W body b) : SS X W (.While c body [] pos) (fWhile fc b) := by
  refine ps_imp (ps_while hp hc hb) fun D σ H ⟨env, st, φ, a, q⟩ => ?_
  unfold fWhile at q
  split at q
  · rename_i ex
    generalize Classical.choose ex = n at q
    refine ⟨fun m σ' H' => ∃ env' st' φ', At X.md σ' H' env' st' φ' ∧ PostS X.md W H' φ' D (whileL fc b env m env' st'), ⟨n, env, st, φ, a, q⟩, ?_⟩
    rintro m σ' H' ⟨env', st', φ', a', p⟩
    cases m with
    | zero => exact p.elim
    | succ m =>
      rw [whileL] at p
      refine ⟨env', st', φ', a', (PostS.bind a' p).mono fun d H1 φ1 st1 e1 s1 p1 => ?_⟩
      have a1 := a'.then e1 s1
      cases d with
      | false => exact p1 H1 φ1 σ' e1 a1
      | true =>
        simp only [if_true] at p1
        show if true = true then _ else _
        rw [if_pos rfl]
        refine ⟨fun σ2 H2 => ∃ env2 st2 φ2, At X.md σ2 H2 env2 st2 φ2 ∧ PostS X.md W H2 φ2 D (whileL fc b env m env2 st2), fun σ2 H2 n => ⟨m, Nat.lt_succ_self _, n⟩, env', st1, φ1, a1, ?_⟩
        cases o : b env' st1 with
        | next e s =>
          rw [o] at p1
          simp only at p1
          split at p1
          · rename_i hl
            exact fun H4 φ4 σ4 e4 a4 => ⟨_, s, φ4, ⟨a4.re.scope hl, a4.rs⟩, PostS.rebase p1 (e1.trans e4)⟩
          · exact p1.elim
        | cont e s =>
          rw [o] at p1
          simp only at p1
          split at p1
          · rename_i hl
            exact fun H4 φ4 σ4 e4 a4 => ⟨_, s, φ4, ⟨a4.re.scope hl, a4.rs⟩, PostS.rebase p1 (e1.trans e4)⟩
          · exact p1.elim
        | brk e s =>
          rw [o] at p1
          simp only at p1
          split at p1
          · rename_i hl
            exact fun H4 φ4 σ4 e4 a4 => p1 H4 φ4 σ4 (e1.trans e4) ⟨a4.re.scope hl, a4.rs⟩
          · exact p1.elim
        | ret r s => rw [o] at p1; exact PostS.rebase (o := .ret r s) p1 e1
        | exc x e s => rw [o] at p1; exact PostS.rebase (o := .exc x e s) p1 e1
        | stuck => rw [o] at p1; exact p1
  · exact q.elim
end
end Fx

set_option Elab.async false
set_option linter.all false
set_option maxRecDepth 100000
set_option maxHeartbeats 4000000
set_option autoImplicit false
/-! Fx, part I: comprehensions. -/
namespace Fx
open PySem PySem.Spec PyProof.Rows L2

/-- a target that changes the places own alone -/
def tC (M : Md) (own : List Nat) (f : FG) : TG := fun v σ H Q => ∃ env st φ d env', At M σ H env st φ ∧ RD M.K H φ d v ∧ f d env = some env' ∧ ∀ σ', At M σ' H env' st φ → (σ'.length = σ.length ∧ ∀ i, i ∉ own → σ'[i]? = σ[i]?) → Q σ' H
abbrev SC (X : Cx) (own : List Nat) (tg : Expr) (f : FG) : Prop := PG X tg (tC X.md own f)
def tCs (M : Md) (own : List Nat) (f : FGs) : TGs := fun vs σ H Q => ∃ env st φ ds env', At M σ H env st φ ∧ RDs M.K H φ ds vs ∧ f ds env = some env' ∧ ∀ σ', At M σ' H env' st φ → (σ'.length = σ.length ∧ ∀ i, i ∉ own → σ'[i]? = σ[i]?) → Q σ' H
abbrev SCs (X : Cx) (own : List Nat) (ts : List Expr) (f : FGs) : Prop := PGs X ts (tCs X.md own f)
section
variable {X : Cx} {pos : Pos} {own : List Nat}
theorem sc_name {i : Nat} {x : Str} (hN : X.N.Nodup) (hi : X.N[i]? = some x) (hx : Loc X.env.scope x) (ho : i ∈ own) (hf : X.fn x = true ∨ X.env.scope.names.lookup x = some .local := by first | exact .inl rfl | exact .inr rfl | assumption) : SC X own (.Name x pos) (tgN i) :=
  pg_imp (pg_name hN hi hx hf) fun v σ H Q ⟨env, st, φ, d, env', a, r, e, q⟩ => by
    cases e
    refine q _ ⟨a.re.set r, a.rs⟩ ⟨by simp, fun j hj => ?_⟩
    have : i ≠ j := fun z => hj (z ▸ ho)
    rw [List.getElem?_set_ne this]
theorem scs_nil : SCs X own [] tgNil := pgs_imp pgs_nil fun v σ H Q ⟨env, st, φ, ds, env', a, r, e, q⟩ => by
  unfold tgNil at e
  split at e
  · cases e
    rename_i z
    cases r with
    | nil => exact ⟨rfl, q _ a ⟨rfl, fun _ _ => rfl⟩⟩
    | cons _ _ => cases z
  · cases e
theorem scs_cons {e : Expr} {es : List Expr} {f : FG} {g : FGs} (h1 : SC X own e f) (h2 : SCs X own es g)
    (hs : (assignEach (e :: es) X.env).map (·.2) = assign e X.env :: (assignEach es X.env).map (·.2) := by rfl) : SCs X own (e :: es) (tgCons f g) :=
  pgs_imp (pgs_cons h1 h2 hs) fun v σ H Q ⟨env, st, φ, ds, env', a, r, e, q⟩ => by
    cases r with
    | nil => cases e
    | @cons d ds v vs h t =>
      cases e1 : f d env with
      | none => simp [tgCons, e1] at e
      | some env1 =>
        simp only [tgCons, e1, Option.bind_some] at e
        exact ⟨v, vs, rfl, env, st, φ, d, env1, a, h, e1, fun σ' a' u => ⟨env1, st, φ, ds, env', a', t, e, fun σ2 a2 u2 => q σ2 a2 ⟨u2.1.trans u.1, fun i hi => (u2.2 i hi).trans (u.2 i hi)⟩⟩⟩
theorem sc_tup {es : List Expr} {k : Nat} {g : FGs} {n : Nat} (hc : X.calm = true) (h : SCs X own es g) (hl : ∀ ds env env', g ds env = some env' → ds.length = n)
    (hn : (assignEach es X.env).length = n := by rfl) (hst : (assignEach es X.env).findIdx? (·.1) = none := by rfl) : SC X own (.Tuple es k pos) (tgT g) :=
  pg_imp (pg_tup hc h hn hst) fun v σ H Q ⟨env, st, φ, d, env', a, r, e, q⟩ => by
    cases r with
    | @tup b vs ds ht hr =>
      exact ⟨b, vs, rfl, SqT.of ht, by rw [← hr.length]; exact hl ds env env' e, env, st, φ, ds, env', a, hr, e, q⟩
    | _ => cases e
end
theorem wipe_in {σ : L2.St} {i : Nat} : ∀ {vs : List Nat}, i ∈ vs → (L2.wipe σ vs)[i]? = if i < σ.length then some none else none
  | [], h => absurd h (by simp)
  | v :: vs, h => by
    unfold L2.wipe
    by_cases e : v = i
    · subst e
      by_cases hl : v < σ.length
      · rw [if_pos hl, List.getElem?_set_self (by rw [wipe_length]; exact hl)]
      · rw [if_neg hl, List.getElem?_eq_none (by simp [wipe_length]; omega)]
    · rw [List.getElem?_set_ne e]
      rcases List.mem_cons.mp h with z | z
      · exact (e z.symm).elim
      · exact wipe_in z
theorem wipe_eq {σ σ' : L2.St} {own : List Nat} (hl : σ'.length = σ.length) (h : ∀ i, i ∉ own → σ'[i]? = σ[i]?) : L2.wipe σ' own = L2.wipe σ own := by
  refine List.ext_getElem? fun i => ?_
  by_cases hi : i ∈ own
  · rw [wipe_in hi, wipe_in hi, hl]
  · rw [wipe_out hi, wipe_out hi, h i hi]
theorem wipe_wipe {σ : L2.St} {own : List Nat} : L2.wipe (L2.wipe σ own) own = L2.wipe σ own := wipe_eq (wipe_length _ _) fun i hi => wipe_out hi

/-- the block's own names have no value ahead of a turn -/
def wipeE (env : Env) : List Nat → Env
  | [] => env
  | v :: vs => (wipeE env vs).set v none
theorem RE.forget {K : PySem.W.Frag} {H : Hp} {φ : List Addr} {env : Env} {σ : L2.St} {i : Nat} (r : RE K H φ env σ) : RE K H φ (env.set i none) (σ.set i none) := by
  refine ⟨by simp [r.len], fun j d' e => ?_⟩
  by_cases q : i = j
  · subst q
    by_cases hi : i < env.length
    · rw [List.getElem?_set_self hi] at e; cases e
    · rw [List.getElem?_eq_none (by simp; omega)] at e; cases e
  · rw [List.getElem?_set_ne q] at e
    obtain ⟨v', e1, r1⟩ := r.get j d' e
    exact ⟨v', by rw [List.getElem?_set_ne q]; exact e1, r1⟩
theorem RE.wipe {K : PySem.W.Frag} {H : Hp} {φ : List Addr} {env : Env} {σ : L2.St} (r : RE K H φ env σ) : ∀ own : List Nat, RE K H φ (wipeE env own) (L2.wipe σ own)
  | [] => r
  | v :: vs => (RE.wipe r vs).forget

/-- no exception comes out -/
def Out.nox {α : Type} : Out α → Out α
  | .ok a st => .ok a st
  | _ => .stuck
@[simp] theorem Out.nox_ok {α : Type} (a : α) (st : Store) : (Out.ok a st).nox = .ok a st := rfl
open Classical in
noncomputable def compL (ok : Store → Prop) (tg : FG) (tt : FB) (elt : FE) (e0 : Env) : List D → List D → Store → Out R
  | [], acc, st => if ok st then .ok (.o (.lst acc)) st else .stuck
  | d :: ds, acc, st => if ok st then
      match tg d e0 with
      | some env1 => (tt env1 st).nox.bind fun b st1 => if b = true then
          (elt env1 st1).nox.bind fun r st2 => if acc.length < 1000000 then compL ok tg tt elt e0 ds (acc ++ [(alloc r st2).1]) (alloc r st2).2 else .stuck
        else compL ok tg tt elt e0 ds acc st1
      | none => .stuck
    else .stuck
noncomputable def fComp (f : FI) (tg : FG) (tt : FB) (elt : FE) (own : List Nat) : FE := fun env st => (f env st).bind fun q st1 => compL q.ok tg tt elt (wipeE env own) q.xs [] st1
def fYes : FB := fun _ st => .ok true st

/-- no exception leaves -/
abbrev WNo : WX := fun _ _ _ _ => False
theorem Post.nox {α : Type} {M : Md} {W : WX} {H : Hp} {φ : List Addr} {σ σ' : L2.St} {o : Out α} {S : α → Hp → List Addr → Store → Prop} (h : Post M W H φ σ o.nox S) : Post M WNo H φ σ' o S := by
  cases o with
  | ok a st => exact h
  | exc x st => exact h.elim
  | stuck => exact h
theorem Ext.updNew {H1 H : Hp} {φ1 φ : List Addr} {D : Addr} {o : HO} (e : Ext H1 φ1 H φ) (h : H1 D = none) : Ext H1 φ1 (upd H D o) φ :=
  ⟨e.pre, fun a xs q => by rw [upd_ne (ne_of_none q h)]; exact e.tup a xs q, fun a ob u q => by rw [upd_ne (ne_of_none q h)]; exact e.frz a ob u q, fun a u q n => by rw [upd_ne (ne_of_none q h)]; exact e.keep a u q n,
    fun a u q => by
      by_cases z : a = D
      · subst z; exact ⟨_, upd_same⟩
      · rw [upd_ne z]; exact e.trk a u q⟩
/-- a list beside the store is written -/
theorem mono_upd {K : PySem.W.Frag} {H : Hp} {φ : List Addr} {D : Addr} {vs : List V} {o : HO} (h : H D = some (.lst vs)) : Mono K H φ (upd H D o) φ :=
  ⟨fun a xs q => by rw [upd_ne (ne_of q h (by intro z; cases z))]; exact q, fun a xs q => by
    rcases q with ⟨ob, q⟩ | q
    · exact .inl ⟨ob, by rw [upd_ne (ne_of q h (by intro z; cases z))]; exact q⟩
    · exact .inr q, fun _ _ q => q⟩
theorem rs_upd {P : Program} {w : World} {K : PySem.W.Frag} {H : Hp} {φ : List Addr} {st : Store} {D : Addr} {vs : List V} {o : HO} (s : RS P w K H φ st) (h : H D = some (.lst vs)) (n : D ∉ φ) : RS P w K (upd H D o) φ st :=
  s.keep (mono_upd h) fun a ha u q => by rw [upd_ne (fun z : a = D => n (by rw [← z]; exact ha))]; exact q

theorem tLc_of {M : Md} {W : WX} {f : FI} {tg : FG} {tt : FB} {elt : FE} {own : List Nat} {σ : L2.St} {H : Hp} {Q : VK} (h : tE M W (fComp f tg tt elt own) σ H Q) :
    tLc (tI M W f) (tC M own tg) (tB M WNo tt) (tE M WNo elt) own σ H Q := by
  obtain ⟨env, st, φ, a, q⟩ := h
  refine ⟨env, st, φ, a, (PostE.bind q).mono fun sq H1 φ1 st1 e1 s1 q1 J src D hD => ?_⟩
  have aw : At M (L2.wipe σ own) H1 (wipeE env own) st1 φ1 := ⟨(a.re.mono e1.mono).wipe own, s1⟩
  refine ⟨fun i m H' => m = sq.xs.length - i ∧ i ≤ sq.xs.length ∧ ∃ acc vs st' φ', At M (L2.wipe σ own) H' (wipeE env own) st' φ' ∧ Ext H1 φ1 H' φ' ∧ H' D = some (.lst vs) ∧ D ∉ φ' ∧ RDs M.K H' φ' acc vs ∧
      PostE M W H1 φ1 σ (compL sq.ok tg tt elt (wipeE env own) (sq.xs.drop i) acc st') Q, ⟨sq.xs.length, by simp, Nat.zero_le _, [], [], st1, φ1, ⟨aw.re.mono (Ext.new hD).mono, s1.new hD⟩, Ext.new hD, upd_same, s1.notin hD, .nil, by simpa using q1⟩, ?_⟩
  rintro i m H' ⟨rfl, hi, acc, vs, st', φ', a', e', hv, nD, rv, p⟩
  by_cases hlt : i < sq.xs.length
  · have ed : sq.xs.drop i = sq.xs[i] :: sq.xs.drop (i + 1) := List.drop_eq_getElem_cons hlt
    rw [ed] at p
    unfold compL at p
    split at p
    · rename_i ok
      refine .inr ⟨src.goes i H' φ' st' hlt e' a'.rs ok, fun H2 => i + 1 ≤ sq.xs.length ∧ ∃ acc vs st2 φ2, At M (L2.wipe σ own) H2 (wipeE env own) st2 φ2 ∧ Ext H1 φ1 H2 φ2 ∧ H2 D = some (.lst vs) ∧ D ∉ φ2 ∧ RDs M.K H2 φ2 acc vs ∧
          PostE M W H1 φ1 σ (compL sq.ok tg tt elt (wipeE env own) (sq.xs.drop (i + 1)) acc st2) Q, fun H2 n => ⟨sq.xs.length - (i + 1), by omega, rfl, n⟩, fun x H2 y => ?_⟩
      obtain ⟨ex, sx, d, ed2, rd⟩ := src.yields i H' φ' st' x H2 hlt e' a'.rs ok y
      have hd : d = sq.xs[i] := by rw [List.getElem?_eq_getElem hlt] at ed2; exact (Option.some.inj ed2).symm
      subst hd
      split at p
      · rename_i env1 eg
        have hv2 : H2 D = some (.lst vs) := ex.keep D _ hv nD
        have e2 : Ext H1 φ1 H2 φ' := e'.trans ex
        refine ⟨wipeE env own, st', φ', _, env1, ⟨a'.re.mono ex.mono, sx⟩, rd, eg, fun σ3 a3 u => ⟨?_, ?_⟩⟩
        · exact (wipe_eq u.1 u.2).trans wipe_wipe
        · refine ⟨env1, st', φ', a3, (Post.nox (Post.rebase (PostE.bind0 p) e2)).mono fun b H3 φ3 st3 e3 s3 p3 => ?_⟩
          have hv3 : H3 D = some (.lst vs) := e3.keep D _ hv2 nD
          have nD3 : D ∉ φ3 := e3.notin hv2 nD
          have rv3 : RDs M.K H3 φ3 acc vs := (rv.mono ex.mono).mono e3.mono
          have aw3 : RE M.K H3 φ3 (wipeE env own) (L2.wipe σ own) := (a'.re.mono ex.mono).mono e3.mono
          cases b with
          | false =>
            show if false = true then _ else _
            rw [if_neg (by decide)]
            simp only [Bool.false_eq_true, if_false] at p3
            exact ⟨hlt, acc, vs, st3, φ3, ⟨aw3, s3⟩, e2.trans e3, hv3, nD3, rv3, p3⟩
          | true =>
            show if true = true then _ else _
            rw [if_pos rfl]
            simp only [if_true] at p3
            refine ⟨env1, st3, φ3, a3.then e3 s3, (Post.nox (Post.rebase (PostE.bind0 p3) (e2.trans e3))).mono fun r H4 φ4 st4 e4 s4 p4 v rr => ?_⟩
            split at p4
            · rename_i hl
              obtain ⟨φ5, s5, r5, e5, m5⟩ := alloc_ok s4 rr e4
              have hv4 : H4 D = some (.lst vs) := e4.keep D _ hv3 nD3
              have nD5 : D ∉ φ5 := e5.notin hv3 nD3
              have mu : Mono M.K H4 φ5 (upd H4 D (.lst (vs ++ [v]))) φ5 := mono_upd hv4
              have e15 : Ext H1 φ1 H4 φ5 := (e2.trans e3).trans e5
              refine ⟨vs, hv4, by rw [← rv.length]; exact line_of' hl, hlt, acc ++ [(alloc r st4).1], vs ++ [v], (alloc r st4).2, φ5, ⟨(aw3.mono e5.mono).mono mu, rs_upd s5 hv4 nD5⟩, e15.updNew hD, upd_same, nD5, ?_, p4⟩
              exact ((rv3.mono e5.mono).mono mu).append (.cons (r5.mono mu) .nil)
            · exact p4.elim
      · exact p.elim
    · exact p.elim
  · have ei : i = sq.xs.length := by omega
    subst ei
    rw [List.drop_length] at p
    unfold compL at p
    split at p
    · rename_i ok
      exact .inl ⟨src.stops H' φ' st' e' a'.rs ok, p H' φ' e' a'.rs _ ⟨D, rfl, .lst hv rv, nD, hD⟩⟩
    · exact p.elim
section
variable {X : Cx} {W : WX} {elt tg iter : Expr} {ifs : List Expr} {scope : PySem.Scope} {own : List (Str × Nat)} {pos : Pos} {f : FI} {g : FG} {tt : FB} {fe : FE}
abbrev STs (X : Cx) (ifs : List Expr) (tt : FB) : Prop := PTs X ifs (tB X.md WNo tt)
theorem sts_nil : STs X [] fYes := ⟨fun pins s σ H Q I ⟨env, st, φ, a, q⟩ => pts_nil.run pins s σ H Q I (q H φ Ext.refl a.rs)⟩
theorem sts_one {c : Expr} (h : SB X WNo c tt) : STs X [c] tt := pts_one h
theorem se_comp (hc : X.calm = true) (hN : X.N.Nodup) (hi : SI X W tg iter f) (ok : BlkOk X.N X.env.scope scope own)
    (hg : ∀ (s : Shared) (H : Hp) (C : Addr) (cl : List (Str × Addr)) (fp : List Addr), SC (X.blk s H scope (compEnvC scope cl C X.env) fp) (own.map (·.2)) tg g) (ht : ∀ (s : Shared) (H : Hp) (C : Addr) (cl : List (Str × Addr)) (fp : List Addr), STs (X.blk s H scope (compEnvC scope cl C X.env) fp) ifs tt)
    (he : ∀ (s : Shared) (H : Hp) (C : Addr) (cl : List (Str × Addr)) (fp : List Addr), SE (X.blk s H scope (compEnvC scope cl C X.env) fp) WNo elt fe) (hs : ∀ x, foldedSetIterable iter X.env x = pure x := by intro _; rfl) :
    SE X W (.ListComp elt [⟨tg, iter, ifs, 0⟩] scope pos) (fComp f g tt fe (own.map (·.2))) :=
  pe_imp (pe_lc (te := tE X.md WNo fe) (tt := tB X.md WNo tt) (g := tC X.md (own.map (·.2)) g) hc hN hi ok hg ht he hs) fun _ _ _ h => tLc_of h
theorem ss_setComp {i : Nat} {y : Str} {py spos : Pos} (hc : X.calm = true) (hN : X.N.Nodup) (hy : X.N[i]? = some y) (hyl : X.env.scope.names.lookup y = some .local)
    (hsw : swapsWith (.ListComp elt [⟨tg, iter, ifs, 0⟩] scope pos) (some (.Name y py)) spos.line X.env = pure true) (hi : SI X W tg iter f) (ok : BlkOk X.N X.env.scope scope own)
    (hg : ∀ (s : Shared) (H : Hp) (C : Addr) (cl : List (Str × Addr)) (fp : List Addr), SC (X.blk s H scope (compEnvC scope cl C X.env) fp) (own.map (·.2)) tg g) (ht : ∀ (s : Shared) (H : Hp) (C : Addr) (cl : List (Str × Addr)) (fp : List Addr), STs (X.blk s H scope (compEnvC scope cl C X.env) fp) ifs tt)
    (he : ∀ (s : Shared) (H : Hp) (C : Addr) (cl : List (Str × Addr)) (fp : List Addr), SE (X.blk s H scope (compEnvC scope cl C X.env) fp) WNo elt fe) (hs : ∀ x, foldedSetIterable iter X.env x = pure x := by intro _; rfl) :
    SS X W (.Assign [.Name y py] (.ListComp elt [⟨tg, iter, ifs, 0⟩] scope pos) spos) (fSet i (fComp f g tt fe (own.map (·.2)))) := by
  refine ps_imp (ps_setLc (te := tE X.md WNo fe) (tt := tB X.md WNo tt) (g := tC X.md (own.map (·.2)) g) hc hN hy hyl hsw hi ok hg ht he hs) fun D σ H ⟨env, st, φ, a, q⟩ => ?_
  refine tLc_of ?_
  refine tE_then a q fun r st1 H1 φ1 v e1 a1 rv q1 => ?_
  obtain ⟨φ2, e2, a2⟩ := set_ok (H0 := H) (φ0 := φ) (st := st) (i := i) a1 e1 rv
  exact q1 H1 φ2 _ e2 a2
end
end Fx

set_option Elab.async false
set_option linter.all false
set_option maxRecDepth 100000
set_option maxHeartbeats 4000000
set_option autoImplicit false
/-! Fx, part J: sorting in plain Lean. -/
namespace Fx
open PySem PySem.Spec PyProof.Rows L2

/-- a strict total order -/
structure STO {α : Type} (lt : α → α → Bool) : Prop where
  irr : ∀ a, lt a a = false
  tr : ∀ a b c, lt a b = true → lt b c = true → lt a c = true
  tot : ∀ a b, lt a b = false → lt b a = false → a = b
section
variable {α : Type} {lt : α → α → Bool}
theorem STO.asy (O : STO lt) {a b : α} (h : lt a b = true) : lt b a = false := by
  cases q : lt b a with
  | false => rfl
  | true => have := O.tr a b a h q; rw [O.irr] at this; cases this
def ins (lt : α → α → Bool) (x : α) : List α → List α
  | [] => [x]
  | y :: ys => if lt y x = true then y :: ins lt x ys else x :: y :: ys
def srt (lt : α → α → Bool) (l : List α) : List α := l.foldr (ins lt) []
theorem ins_perm (x : α) : ∀ l : List α, (ins lt x l).Perm (x :: l)
  | [] => .refl _
  | y :: ys => by
    unfold ins
    split
    · exact ((ins_perm x ys).cons y).trans (.swap x y ys)
    · exact .refl _
theorem srt_perm : ∀ l : List α, (srt lt l).Perm l
  | [] => .refl _
  | x :: l => (ins_perm x (srt lt l)).trans ((srt_perm l).cons x)
theorem ins_pw (O : STO lt) (x : α) : ∀ l : List α, l.Pairwise (fun a b => lt b a = false) → (ins lt x l).Pairwise (fun a b => lt b a = false)
  | [], _ => by simp [ins]
  | y :: ys, h => by
    unfold ins
    have h1 := (List.pairwise_cons.mp h).1
    have h2 := (List.pairwise_cons.mp h).2
    split
    · rename_i q
      refine List.pairwise_cons.mpr ⟨fun z hz => ?_, ins_pw O x ys h2⟩
      rcases List.mem_cons.mp ((ins_perm x ys).mem_iff.mp hz) with e | e
      · subst e; exact O.asy q
      · exact h1 z e
    · rename_i q
      have q' : lt y x = false := by simpa using q
      refine List.pairwise_cons.mpr ⟨fun z hz => ?_, h⟩
      rcases List.mem_cons.mp hz with e | e
      · subst e; exact q'
      · cases r : lt z x with
        | false => rfl
        | true =>
          -- z < x, and not z < y: so not y > z .. y ≤ z < x
          have h3 := h1 z e
          cases s : lt y z with
          | true => have := O.tr y z x s r; rw [q'] at this; cases this
          | false => have := O.tot y z s h3; subst this; rw [q'] at r; cases r
theorem srt_pw (O : STO lt) : ∀ l : List α, (srt lt l).Pairwise (fun a b => lt b a = false)
  | [] => List.Pairwise.nil
  | x :: l => ins_pw O x _ (srt_pw O l)
/-- there is but one sorted arrangement -/
theorem srt_uniq (O : STO lt) : ∀ {l m : List α}, l.Pairwise (fun a b => lt b a = false) → m.Pairwise (fun a b => lt b a = false) → l.Perm m → l = m
  | [], m, _, _, p => (List.Perm.eq_nil p.symm).symm
  | x :: l, [], _, _, p => absurd p.length_eq (by simp)
  | x :: l, y :: m, hl, hm, p => by
    have e : x = y := by
      have hx : x ∈ y :: m := p.mem_iff.mp List.mem_cons_self
      have hy : y ∈ x :: l := p.mem_iff.mpr List.mem_cons_self
      rcases List.mem_cons.mp hx with e | hx
      · exact e
      · rcases List.mem_cons.mp hy with e | hy
        · exact e.symm
        · exact (O.tot x y ((List.pairwise_cons.mp hm).1 x hx) ((List.pairwise_cons.mp hl).1 y hy))
    subst e
    rw [srt_uniq O (List.pairwise_cons.mp hl).2 (List.pairwise_cons.mp hm).2 p.cons_inv]
theorem srt_eq (O : STO lt) {l m : List α} (h : m.Pairwise (fun a b => lt b a = false)) (p : m.Perm l) : m = srt lt l := srt_uniq O h (srt_pw O l) (p.trans (srt_perm l).symm)
theorem srt_id (O : STO lt) {l : List α} (h : l.Pairwise (fun a b => lt b a = false)) : srt lt l = l := (srt_eq O h (.refl _)).symm
/-- each once -/
def insU [DecidableEq α] (lt : α → α → Bool) (x : α) : List α → List α
  | [] => [x]
  | y :: ys => if lt x y = true then x :: y :: ys else if x = y then y :: ys else y :: insU lt x ys
def srtU [DecidableEq α] (lt : α → α → Bool) (l : List α) : List α := l.foldr (insU lt) []
theorem insU_mem [DecidableEq α] (x z : α) : ∀ l : List α, z ∈ insU lt x l ↔ z = x ∨ z ∈ l
  | [] => by simp [insU]
  | y :: ys => by
    unfold insU
    split
    · simp
    · split
      · rename_i e; subst e; simp
      · simp only [List.mem_cons, insU_mem x z ys]
        constructor
        · rintro (h | h | h)
          · exact .inr (.inl h)
          · exact .inl h
          · exact .inr (.inr h)
        · rintro (h | h | h)
          · exact .inr (.inl h)
          · exact .inl h
          · exact .inr (.inr h)
theorem srtU_mem [DecidableEq α] (z : α) : ∀ l : List α, z ∈ srtU lt l ↔ z ∈ l
  | [] => by simp [srtU]
  | x :: l => by
    show z ∈ insU lt x (srtU lt l) ↔ _
    rw [insU_mem, srtU_mem z l, List.mem_cons]
theorem insU_pw [DecidableEq α] (O : STO lt) (x : α) : ∀ l : List α, l.Pairwise (fun a b => lt a b = true) → (insU lt x l).Pairwise (fun a b => lt a b = true)
  | [], _ => by simp [insU]
  | y :: ys, h => by
    unfold insU
    have h1 := (List.pairwise_cons.mp h).1
    have h2 := (List.pairwise_cons.mp h).2
    split
    · rename_i q
      refine List.pairwise_cons.mpr ⟨fun z hz => ?_, h⟩
      rcases List.mem_cons.mp hz with e | e
      · subst e; exact q
      · exact O.tr x y z q (h1 z e)
    · rename_i q
      split
      · exact h
      · rename_i ne
        refine List.pairwise_cons.mpr ⟨fun z hz => ?_, insU_pw O x ys h2⟩
        rcases (insU_mem x z ys).mp hz with e | e
        · subst e
          cases r : lt y z with
          | true => rfl
          | false => exact (ne (O.tot z y (by simpa using q) r)).elim
        · exact h1 z e
theorem srtU_pw [DecidableEq α] (O : STO lt) : ∀ l : List α, (srtU lt l).Pairwise (fun a b => lt a b = true)
  | [] => List.Pairwise.nil
  | x :: l => insU_pw O x _ (srtU_pw O l)
/-- ascending lists with the same items are one -/
theorem asc_ext (O : STO lt) : ∀ {l m : List α}, l.Pairwise (fun a b => lt a b = true) → m.Pairwise (fun a b => lt a b = true) → (∀ z, z ∈ l ↔ z ∈ m) → l = m
  | [], [], _, _, _ => rfl
  | [], y :: m, _, _, h => absurd ((h y).mpr List.mem_cons_self) (by simp)
  | x :: l, [], _, _, h => absurd ((h x).mp List.mem_cons_self) (by simp)
  | x :: l, y :: m, hl, hm, h => by
    have hl1 := (List.pairwise_cons.mp hl).1
    have hm1 := (List.pairwise_cons.mp hm).1
    have e : x = y := by
      rcases List.mem_cons.mp ((h x).mp List.mem_cons_self) with e | hx
      · exact e
      · rcases List.mem_cons.mp ((h y).mpr List.mem_cons_self) with e | hy
        · exact e.symm
        · have a := hm1 x hx
          have b := hl1 y hy
          rw [O.asy a] at b; cases b
    subst e
    refine congrArg (x :: ·) (asc_ext O (List.pairwise_cons.mp hl).2 (List.pairwise_cons.mp hm).2 fun z => ?_)
    constructor
    · intro hz
      rcases List.mem_cons.mp ((h z).mp (List.mem_cons_of_mem _ hz)) with e | q
      · subst e; have := hl1 z hz; rw [O.irr] at this; cases this
      · exact q
    · intro hz
      rcases List.mem_cons.mp ((h z).mpr (List.mem_cons_of_mem _ hz)) with e | q
      · subst e; have := hm1 z hz; rw [O.irr] at this; cases this
      · exact q
theorem srtU_eq [DecidableEq α] (O : STO lt) {l m : List α} (h : m.Pairwise (fun a b => lt a b = true)) (e : ∀ z, z ∈ m ↔ z ∈ l) : m = srtU lt l := asc_ext O h (srtU_pw O l) fun z => (e z).trans (srtU_mem z l).symm
end
/-- ints -/
def ltI (a b : Int) : Bool := decide (a < b)
theorem sto_int : STO ltI := ⟨fun a => by simp [ltI], fun a b c h1 h2 => by simp [ltI] at *; omega, fun a b h1 h2 => by simp [ltI] at *; omega⟩
/-- tuples of ints, as Python has it -/
def lexB : List Int → List Int → Bool
  | [], [] => false
  | [], _ :: _ => true
  | _ :: _, [] => false
  | x :: xs, y :: ys => if x = y then lexB xs ys else decide (x < y)
theorem sto_lex : STO lexB := by
  refine ⟨fun a => ?_, fun a b c => ?_, fun a b => ?_⟩
  · induction a with
    | nil => rfl
    | cons x xs ih => simp [lexB, ih]
  · induction a generalizing b c with
    | nil =>
      intro h1 h2
      cases b with
      | nil => cases h1
      | cons y ys =>
        cases c with
        | nil => cases h2
        | cons z zs => rfl
    | cons x xs ih =>
      intro h1 h2
      cases b with
      | nil => cases h1
      | cons y ys =>
        cases c with
        | nil => cases h2
        | cons z zs =>
          simp only [lexB] at *
          split at h1
          · rename_i e
            subst e
            split at h2
            · rename_i e
              rw [if_pos e]; exact ih _ _ h1 h2
            · rename_i e
              rw [if_neg e]; exact h2
          · rename_i e
            split at h2
            · rename_i e2
              subst e2
              rw [if_neg e]; exact h1
            · rename_i e2
              have a1 := of_decide_eq_true h1
              have a2 := of_decide_eq_true h2
              rw [if_neg (by omega)]
              exact decide_eq_true (by omega)
  · induction a generalizing b with
    | nil =>
      intro h1 h2
      cases b with
      | nil => rfl
      | cons y ys => cases h1
    | cons x xs ih =>
      intro h1 h2
      cases b with
      | nil => cases h2
      | cons y ys =>
        simp only [lexB] at *
        split at h1
        · rename_i e
          subst e
          rw [if_pos rfl] at h2
          rw [ih _ h1 h2]
        · rename_i e
          rw [if_neg (Ne.symm e)] at h2
          have a1 := of_decide_eq_false h1
          have a2 := of_decide_eq_false h2
          exact (e (by omega)).elim
end Fx

set_option Elab.async false
set_option linter.all false
set_option maxRecDepth 100000
set_option maxHeartbeats 4000000
set_option autoImplicit false
/-! Fx, part K: calls of built-ins. -/
namespace Fx
open PySem PySem.Spec PyProof.Rows L2

def fCall1 (g : R → Store → Out R) (f : FE) : FE := fun env st => (f env st).bind g
def Cr1 (X : Cx) (r : List V → Hp → VK → Prop) (g : R → Store → Out R) : Prop := ∀ (W : WX) (σ : L2.St) (H H0 : Hp) (φ : List Addr) (st : Store) (ra : R) (x : V) (Q : VK),
  RS X.prog X.w X.K H φ st → RR X.prog X.w X.K H0 H φ ra x → PostE X.md W H φ σ (g ra st) Q → r [x] H Q
section
variable {X : Cx} {W : WX} {x : Str} {p pos : Pos} {a : Expr} {f : FE} {id T : String} {r : List V → Hp → VK → Prop} {g : R → Store → Out R}
theorem tCB_of (h1 : Cr1 X r g) {σ : L2.St} {H : Hp} {Q : VK} (h : tE X.md W (fCall1 g f) σ H Q) : tCB r (tCons (tE X.md W f) tNil) σ H Q := by
  obtain ⟨env, st, φ, a, q⟩ := h
  refine tE_seq a q fun ra st1 H1 φ1 v e1 a1 rv q1 => ?_
  exact h1 W σ H1 H φ1 st1 ra v Q a1.rs rv q1
theorem se_callB (hc : CallR X (.builtin id) r) (h1 : Cr1 X r g) (hg : Gl X x) (hm : X.mg x = none) (hv : bootBuiltins x = some (.builtin id)) (ha : SE X W a f) (hn : x ≠ "__name__" := by decide) (hdb : (x == ("__debug__" : Str)) = false := by decide)
    (he : starEach (a :: []) X.env = (false, eval a X.env) :: starEach [] X.env := by rfl) (hpl : (backTo pos (starEach [] X.env)).any (·.1) = false := by rfl) : SE X W (.Call (.Name x p) [a] [] pos) (fCall1 g f) :=
  pe_imp (pe_callB hc hg hm hv (pa_cons ha pa_nil he) hn hdb he hpl) fun _ _ _ h => tCB_of h1 h
theorem se_callTy (hc : CallR X (.type T) r) (h1 : Cr1 X r g) (hg : Gl X x) (hm : X.mg x = none) (hv : bootBuiltins x = some (.type T)) (ha : SE X W a f) (hn : x ≠ "__name__" := by decide) (hdb : (x == ("__debug__" : Str)) = false := by decide)
    (he : starEach (a :: []) X.env = (false, eval a X.env) :: starEach [] X.env := by rfl) (hpl : (backTo pos (starEach [] X.env)).any (·.1) = false := by rfl) : SE X W (.Call (.Name x p) [a] [] pos) (fCall1 g f) :=
  pe_imp (pe_callTy hc hg hm hv (pa_cons ha pa_nil he) hn hdb he hpl) fun _ _ _ h => tCB_of h1 h
theorem CallR.or {f : Value} {r r' : List V → Hp → VK → Prop} (h : CallR X f r) (h' : CallR X f r') : CallR X f (fun xs H Q => r xs H Q ∨ r' xs H Q) := by
  intro pins s σ H xs us Q I rx q
  rcases q with q | q
  · exact h pins s σ H xs us Q I rx q
  · exact h' pins s σ H xs us Q I rx q
end

/-! ### len -/
def gLen (r : R) (st : Store) : Out R := match r with
  | .v (.tup xs) => .ok (.v (.int xs.length)) st
  | .v (.str z) => if z.length ≤ 1000000 then .ok (.v (.int z.length)) st else .stuck
  | r => match seqL st r with
    | some xs => .ok (.v (.int xs.length)) st
    | none => .stuck
theorem cr1_len {X : Cx} : Cr1 X (fun xs H Q => ∃ x n, xs = [x] ∧ LenV X.K x H n ∧ Q (.int n) H) gLen := by
  intro W σ H H0 φ st ra x Q s rx h
  unfold gLen at h
  split at h
  · obtain ⟨a, vs, rfl, q, t⟩ := tup_ok rx
    exact ⟨_, vs.length, rfl, .inr ⟨vs, SqT.of q, rfl⟩, by rw [← t.length]; exact of_val (M := X.md) s (.int _) h⟩
  · split at h
    · rename_i z hl
      rw [str_ok rx]
      exact ⟨_, z.length, rfl, ⟨line_of hl, rfl⟩, of_val (M := X.md) s (.int _) h⟩
    · exact h.elim
  · split at h
    · rename_i xs e
      obtain ⟨a, vs, rfl, q, t⟩ := seqL_ok s rx e
      exact ⟨_, vs.length, rfl, .inl ⟨vs, q, rfl⟩, by rw [← t.length]; exact of_val (M := X.md) s (.int _) h⟩
    · exact h.elim

/-! ### int, abs -/
def gInt (r : R) (st : Store) : Out R := match r with
  | .v (.int i) => .ok (.v (.int i)) st
  | .v (.bl b) => .ok (.v (.int (if b then 1 else 0))) st
  | _ => .stuck
theorem cr1_int {X : Cx} : Cr1 X (fun xs H Q => (∃ i, xs = [.int i] ∧ Q (.int i) H) ∨ ∃ k, xs = [.bl k] ∧ Q (.int (if k then 1 else 0)) H) gInt := by
  intro W σ H H0 φ st ra x Q s rx h
  unfold gInt at h
  split at h
  · rw [int_ok rx]; exact .inl ⟨_, rfl, of_val (M := X.md) s (.int _) h⟩
  · rw [bl_ok rx]; exact .inr ⟨_, rfl, of_val (M := X.md) s (.int _) h⟩
  · exact h.elim
def gAbs (r : R) (st : Store) : Out R := match r with
  | .v (.int i) => .ok (.v (.int (if i < 0 then -i else i))) st
  | _ => .stuck
theorem cr1_abs {X : Cx} : Cr1 X (fun xs H Q => ∃ i, xs = [.int i] ∧ Q (.int (if i < 0 then -i else i)) H) gAbs := by
  intro W σ H H0 φ st ra x Q s rx h
  unfold gAbs at h
  split at h
  · rw [int_ok rx]; exact ⟨_, rfl, of_val (M := X.md) s (.int _) h⟩
  · exact h.elim

/-! ### tuple, list -/
def gTuple (r : R) (st : Store) : Out R := match r with
  | .v (.tup xs) => .ok (.v (.tup xs)) st
  | r => match seqL st r with
    | some xs => .ok (.v (.tup xs)) st
    | none => .stuck
theorem cr1_tuple {X : Cx} : Cr1 X (fun xs H Q => ∃ p ys, xs = [.ref p] ∧ ((SqL X.K H p ys ∧ ∀ l, H l = none → Q (.ref l) (upd H l (.tup ys))) ∨ (SqT X.K H p ys ∧ Q (.ref p) H))) gTuple := by
  intro W σ H H0 φ st ra x Q s rx h
  unfold gTuple at h
  split at h
  · obtain ⟨a, vs, rfl, q, t⟩ := tup_ok rx
    exact ⟨a, vs, rfl, .inr ⟨SqT.of q, of_val (M := X.md) s (.tup q t) h⟩⟩
  · split at h
    · rename_i xs e
      obtain ⟨a, vs, rfl, q, t⟩ := seqL_ok s rx e
      exact ⟨a, vs, rfl, .inl ⟨q, fun l hl => new_tup (M := X.md) s t h hl⟩⟩
    · exact h.elim
def gList (r : R) (st : Store) : Out R := match r with
  | .v (.tup xs) => .ok (.o (.lst xs)) st
  | r => match seqL st r with
    | some xs => .ok (.o (.lst xs)) st
    | none => .stuck
theorem cr1_list {X : Cx} : Cr1 X (fun xs H Q => ∃ p ys, xs = [.ref p] ∧ (SqL X.K H p ys ∨ SqT X.K H p ys) ∧ ∀ l, H l = none → Q (.ref l) (upd H l (.lst ys))) gList := by
  intro W σ H H0 φ st ra x Q s rx h
  unfold gList at h
  split at h
  · obtain ⟨a, vs, rfl, q, t⟩ := tup_ok rx
    exact ⟨a, vs, rfl, .inr (SqT.of q), fun l hl => new_lst (M := X.md) s t h hl⟩
  · split at h
    · rename_i xs e
      obtain ⟨a, vs, rfl, q, t⟩ := seqL_ok s rx e
      exact ⟨a, vs, rfl, .inl q, fun l hl => new_lst (M := X.md) s t h hl⟩
    · exact h.elim
/-- list(range(a)) -/
def fListRng1 (f : FE) : FE := fun env st => (f env st).bind fun r st1 => match r with
  | .v (.int j) => if 0 ≤ j ∧ j < 1000000 then .ok (.o (.lst (rngD 0 j.toNat))) st1 else .stuck
  | _ => .stuck
theorem rds_rng {K : PySem.W.Frag} {H : Hp} {φ : List Addr} {a b : Int} : RDs K H φ (rngD a (b - a).toNat) (rgV a b) := by
  unfold rngD rgV
  generalize List.range (b - a).toNat = l
  induction l with
  | nil => exact .nil
  | cons i l ih => exact .cons (.int _) ih
theorem se_listRng1 {X : Cx} {W : WX} {a : Expr} {f : FE} {p q pos rpos : Pos} (hc : X.calm = true) (hg : Gl X "list") (hm : X.mg "list" = none) (hg2 : Gl X "range") (hm2 : X.mg "range" = none) (ha : SE X W a f)
    (na : starEach [a] X.env = (false, eval a X.env) :: starEach [] X.env := by rfl) (nb : starEach [.Call (.Name "range" q) [a] [] rpos] X.env = (false, eval (.Call (.Name "range" q) [a] [] rpos) X.env) :: starEach [] X.env := by rfl) :
    SE X W (.Call (.Name "list" p) [.Call (.Name "range" q) [a] [] rpos] [] pos) (fListRng1 f) := by
  refine pe_imp (pe_listRg hc hg hm (prg_1 hg2 hm2 ha na) nb) fun σ H Q ⟨env, st, φ, a, q⟩ => ?_
  refine tE_seq a q fun r st1 H1 φ1 v e1 a1 rv q1 => ?_
  split at q1
  · split at q1
    · rename_i j hj
      refine ⟨j, int_ok rv, RgOk.of_le (by omega) (by omega) (by omega) (by omega), fun l hl => new_lst (M := X.md) a1.rs ?_ q1 hl⟩
      have := rds_rng (K := X.K) (H := H1) (φ := φ1) (a := 0) (b := j)
      simpa using this
    · exact q1.elim
  · exact q1.elim

/-! ### repr -/
def gRepr (r : R) (st : Store) : Out R := match r.toP st 60 with
  | some p => if p.showable = true ∧ p.shown.length ≤ 1000000 then .ok (.v (.str p.shown)) st else .stuck
  | none => .stuck
mutual
theorem lay_noDict : ∀ {p : PyData}, p.canLay0 = true → p.hasDict = false
  | .none, _ => by simp [PyData.hasDict]
  | .bool _, _ => by simp [PyData.hasDict]
  | .int _, _ => by simp [PyData.hasDict]
  | .str _, _ => by simp [PyData.hasDict]
  | .list xs, h => by
    have := lay_noDicts (xs := xs) (by simpa [PyData.canLay0] using h)
    simpa [PyData.hasDict] using this
  | .tuple xs, h => by
    have := lay_noDicts (xs := xs) (by simpa [PyData.canLay0] using h)
    simpa [PyData.hasDict] using this
  | .dict _, h => by simp [PyData.canLay0] at h
theorem lay_noDicts : ∀ {xs : List PyData}, PyData.canLayAll0 xs = true → PyData.hasDictAll xs = false
  | [], _ => by simp [PyData.hasDictAll]
  | p :: xs, h => by
    simp only [PyData.canLayAll0, Bool.and_eq_true] at h
    have h1 := lay_noDict h.1
    have h2 := lay_noDicts h.2
    simp [PyData.hasDictAll, h1, h2]
end
def rReprV (K : PySem.W.Frag) : List V → Hp → VK → Prop := fun xs H Q => ∃ x p, xs = [x] ∧ Dp K H x p ∧ p.canLay0 = true ∧ p.depth ≤ 61 ∧ p.showable = true ∧ p.shown.length ≤ 1000000 ∧ Q (.str p.shown) H
theorem cr1_repr {X : Cx} : Cr1 X (rReprV X.K) gRepr := by
  intro W σ H H0 φ st ra x Q s rx h
  unfold gRepr at h
  split at h
  · rename_i p e
    split at h
    · rename_i hl
      obtain ⟨h1, h2, h3⟩ := rtoP_ok s rx e
      exact ⟨x, p, rfl, h1, h2, h3, hl.1, hl.2, of_val (M := X.md) s (.str _) h⟩
    · exact h.elim
  · exact h.elim
theorem call_reprV {X : Cx} (C : Cd X) : CallR X (.builtin "repr") (rReprV X.K) := by
  intro pins s σ H xs us Q I r h
  obtain ⟨x, p, rfl, hp, hl, hd, h1, hz, q⟩ := h
  obtain ⟨u, rfl, rx⟩ := vals1 r
  have h2 := lay_noDict hl
  have hu := C.hu
  have big : ∀ (a : Addr), u = .ref a → wpAny (model X.prog X.w) X.A (call (.builtin "repr") [u]) (EP X pins σ Q) X.xe s := fun a e => by
    subst e
    obtain ⟨as, rd⟩ := Dp.reads I p x _ hp rx
    exact repr_of_reads' rd h1 (PyData.noDict_hsm h2) C.hg (by omega) (fun _ _ e => e) (fun h' u tk hk => ⟨.str p.shown, H, I.kept (t' := tk) hk, ⟨_, rfl⟩, q⟩) (line_of hz)
  cases hp with
  | non => obtain rfl : u = Value.none := rx; exact PySem.P.repr_of_none ⟨.str _, H, I.tok _, ⟨_, rfl⟩, by simpa [PyData.shown] using q⟩
  | bl b => obtain rfl : u = Value.bool b := rx; exact PySem.P.repr_of_bool ⟨.str _, H, I.tok _, ⟨_, rfl⟩, by simpa [PyData.shown] using q⟩
  | int i =>
    obtain ⟨t, rfl⟩ := rx
    refine PySem.P.repr_of_int (by simpa [PyData.showable] using h1) ⟨.str _, H, I.tok _, ⟨_, rfl⟩, by simpa [PyData.shown] using q⟩
  | str z =>
    obtain ⟨t, rfl⟩ := rx
    exact PySem.P.repr_of_str ⟨.str _, H, I.tok _, ⟨_, rfl⟩, by simpa [PyData.shown] using q⟩ (by simpa [PyData.shown] using line_of hz)
  | lst _ _ => exact big _ rx
  | tup _ _ => exact big _ rx

/-! ### sorted, set -/
def D.asI : D → Option Int
  | .int i => some i
  | _ => none
def D.asT : D → Option (List Int)
  | .tup xs => xs.mapM D.asI
  | _ => none
def dtup (xs : List Int) : D := .tup (xs.map .int)
theorem mapM_some {α β : Type} {f : α → Option β} : ∀ {l : List α} {m : List β}, l.mapM f = some m → ∀ {x : α}, x ∈ l → ∃ y, f x = some y ∧ y ∈ m
  | [], _, _, x, hx => by simp at hx
  | a :: l, m, h, x, hx => by
    rw [List.mapM_cons] at h
    cases e1 : f a with
    | none => rw [e1] at h; cases h
    | some b =>
      rw [e1] at h
      cases e2 : l.mapM f with
      | none => rw [e2] at h; cases h
      | some bs =>
        rw [e2] at h
        have : m = b :: bs := by simpa using h.symm
        subst this
        rcases List.mem_cons.mp hx with z | z
        · subst z; exact ⟨b, e1, List.mem_cons_self⟩
        · obtain ⟨y, h1, h2⟩ := mapM_some e2 z
          exact ⟨y, h1, List.mem_cons_of_mem _ h2⟩
section
variable {K : PySem.W.Frag} {H : Hp} {φ : List Addr}
theorem asI_ok : ∀ {xs : List D} {vs : List V} {ks : List Int}, RDs K H φ xs vs → xs.mapM D.asI = some ks → vs = ks.map V.int ∧ xs = ks.map D.int
  | [], _, ks, .nil, e => by
    have : ks = [] := by simpa using e.symm
    subst this; exact ⟨rfl, rfl⟩
  | d :: ds, _, ks, .cons h t, e => by
    rw [List.mapM_cons] at e
    cases e1 : d.asI with
    | none => rw [e1] at e; cases e
    | some k =>
      rw [e1] at e
      cases e2 : ds.mapM D.asI with
      | none => rw [e2] at e; cases e
      | some ls =>
        rw [e2] at e
        have : ks = k :: ls := by simpa using e.symm
        subst this
        obtain ⟨h1, h2⟩ := asI_ok t e2
        cases d with
        | int i => cases e1; cases h; rw [h1, h2]; exact ⟨rfl, rfl⟩
        | _ => cases e1
/-- tuples of ints, where they stand -/
theorem asT_ok : ∀ {xs : List D} {vs : List V} {ks : List (List Int)}, RDs K H φ xs vs → xs.mapM D.asT = some ks → ∃ M : List (Addr × List Int), vs = M.map (fun p => V.ref p.1) ∧ M.map (·.2) = ks ∧ ∀ p ∈ M, H p.1 = some (.tup (p.2.map V.int))
  | [], _, ks, .nil, e => by
    have : ks = [] := by simpa using e.symm
    subst this; exact ⟨[], rfl, rfl, by simp⟩
  | d :: ds, _, ks, .cons h t, e => by
    rw [List.mapM_cons] at e
    cases e1 : d.asT with
    | none => rw [e1] at e; cases e
    | some k =>
      rw [e1] at e
      cases e2 : ds.mapM D.asT with
      | none => rw [e2] at e; cases e
      | some ls =>
        rw [e2] at e
        have : ks = k :: ls := by simpa using e.symm
        subst this
        obtain ⟨M, h1, h2, h3⟩ := asT_ok t e2
        cases d with
        | tup ys =>
          cases h with
          | @tup a vs' _ hq hr =>
            obtain ⟨k1, k2⟩ := asI_ok hr e1
            subst k1
            exact ⟨(a, k) :: M, by simp [h1], by simp [h2], fun p hp => by
              rcases List.mem_cons.mp hp with z | z
              · subst z; exact hq
              · exact h3 p z⟩
        | _ => cases e1
theorem rds_ints : ∀ ks : List Int, RDs K H φ (ks.map D.int) (ks.map V.int)
  | [] => .nil
  | k :: ks => .cons (.int k) (rds_ints ks)
theorem rds_tups : ∀ M : List (Addr × List Int), (∀ p ∈ M, H p.1 = some (.tup (p.2.map V.int))) → RDs K H φ ((M.map (·.2)).map dtup) (M.map fun p => V.ref p.1)
  | [], _ => .nil
  | p :: M, h => .cons (.tup (h p List.mem_cons_self) (rds_ints p.2)) (rds_tups M fun q hq => h q (List.mem_cons_of_mem _ hq))
end
/-- set(xs), xs a list of tuples of ints -/
def gSetT (r : R) (st : Store) : Out R := match (seqL st r).bind fun xs => xs.mapM D.asT with
  | some ks => if ks.length < 64 then .ok (.o (.sT ks)) st else .stuck
  | none => .stuck
theorem cr1_setT {X : Cx} : Cr1 X (rSetOfT X.K X.prog X.w) gSetT := by
  intro W σ H H0 φ st ra x Q s rx h
  unfold gSetT at h
  split at h
  · rename_i ks e
    split at h
    · rename_i hl
      cases e1 : seqL st ra with
      | none => rw [e1] at e; cases e
      | some xs =>
        rw [e1] at e
        obtain ⟨a, vs, rfl, q, t⟩ := seqL_ok s rx e1
        obtain ⟨M, rfl, m2, m3⟩ := asT_ok t e
        subst m2
        refine ⟨a, M, rfl, q, fun p hp => SqT.of (m3 p hp), by simpa using hl, fun b L hb l1 l2 => ?_⟩
        refine h _ _ (Ext.new hb) (s.new hb) _ ⟨b, rfl, .sT (M := L) upd_same (fun p hp => ?_) (fun t => ?_), s.notin hb, hb⟩
        · rw [upd_ne (ne_of_none (m3 p (l1 p hp)) hb)]
          exact m3 p (l1 p hp)
        · constructor
          · intro z
            obtain ⟨p, hp, e⟩ := List.mem_map.mp z
            exact List.mem_map.mpr ⟨p, l1 p hp, e⟩
          · intro z
            obtain ⟨p, hp, e⟩ := List.mem_map.mp z
            have := l2 p hp
            rw [← e]; exact this
    · exact h.elim
  · exact h.elim
theorem code_of_lex : ∀ {r q : List Int}, r.length = q.length → TS.Bd 64 r → TS.Bd 64 q → lexB r q = true → TS.code 64 r < TS.code 64 q
  | [], [], _, _, _, h => by cases h
  | [], _ :: _, hl, _, _, _ => by simp at hl
  | _ :: _, [], hl, _, _, _ => by simp at hl
  | x :: r, y :: q, hl, h1, h2, h => by
    have hl' : r.length = q.length := by simpa using hl
    simp only [lexB] at h
    split at h
    · rename_i e
      subst e
      exact (TS.code_same hl').mpr (code_of_lex hl' h1.tail h2.tail h)
    · exact TS.code_lt hl' h1.tail h2.tail (of_decide_eq_true h)
/-- a set's tuples are all of one length and small -/
def SetOk (L : List (List Int)) : Prop := ∃ d : Nat, 1 ≤ d ∧ ∀ p ∈ L, p.length = d ∧ ∀ m ∈ p, 0 ≤ m ∧ m < 64
/-- the keys of a dict, all ints -/
def intKeys {κ : Type} (kvs : List (Key × κ)) : Option (List Int) := kvs.mapM fun kv => match kv.1 with
  | .inl i => some i
  | .inr _ => none
open Classical in
noncomputable def gSorted (r : R) (st : Store) : Out R := match objOf st r with
  | some (.sT L) => if SetOk L then .ok (.o (.lst ((srtU lexB L).map dtup))) st else .stuck
  | some (.dK kvs) => match intKeys kvs with
    | some ks => if ks.length < 64 then .ok (.o (.lst ((srt ltI ks).map .int))) st else .stuck
    | none => .stuck
  | _ => match seqL st r with
    | some xs => match xs.mapM D.asI with
      | some ks => .ok (.o (.lst ((srt ltI ks).map .int))) st
      | none => .stuck
    | none => .stuck
theorem le_of_srt {l : List Int} (h : l.Pairwise (· ≤ ·)) : l.Pairwise (fun a b => ltI b a = false) := h.imp fun {a b} q => by simp [ltI]; omega
theorem intKeys_ok {K : PySem.W.Frag} {H : Hp} {φ : List Addr} {kvs : List (Key × D)} {kws : List (Key × V)} (r : RKs K H φ kvs kws) : ∀ {ks : List Int}, intKeys kvs = some ks → kws.map (·.1) = ks.map Sum.inl := by
  induction r with
  | nil =>
    intro ks e
    have : ks = [] := by simpa [intKeys] using e.symm
    subst this; rfl
  | @cons k d ds v vs h t ih =>
    intro ks e
    unfold intKeys at e
    rw [List.mapM_cons] at e
    cases k with
    | inr x => cases e
    | inl i =>
      cases e2 : intKeys ds with
      | none => unfold intKeys at e2; simp [e2] at e
      | some ls =>
        have e3 := e2
        unfold intKeys at e2
        simp only [e2] at e
        have : ks = i :: ls := by simpa using e.symm
        subst this
        simp [ih e3]
section
variable {X : Cx}
abbrev rSortedDI : List V → Hp → VK → Prop := fun xs H Q => ∃ (a : Addr) (kvs : List (Key × V)) (ks : List Int), xs = [.ref a] ∧ Rd H a (.dK kvs) ∧ kvs.map (·.1) = ks.map Sum.inl ∧ ks.length < 64 ∧
    ∀ (ys : List Int) (p : Addr), ys.Perm ks → ys.Pairwise (· ≤ ·) → H p = none → Q (.ref p) (upd H p (.lst (ys.map V.int)))
def rSortedA (K : PySem.W.Frag) (P : Program) (w : World) : List V → Hp → VK → Prop := fun xs H Q => rSortedT K P w xs H Q ∨ rSortedDI xs H Q ∨ rSortedI K xs H Q
theorem cr_sortedA (C : Cd X) : CallR X (.builtin "sorted") (rSortedA X.K X.prog X.w) := CallR.or (cr_sortedT C.hc) (CallR.or (call_sortedDI C.hc) cr_sortedI)
theorem cr1_sorted : Cr1 X (rSortedA X.K X.prog X.w) gSorted := by
  intro W σ H H0 φ st ra x Q s rx h
  unfold gSorted at h
  have seq : ∀ xs, seqL st ra = some xs → PostE X.md W H φ σ (match xs.mapM D.asI with
      | some ks => .ok (.o (.lst ((srt ltI ks).map .int))) st
      | none => .stuck) Q → rSortedA X.K X.prog X.w [x] H Q := fun xs e1 h => by
    split at h
    · rename_i ks e2
      obtain ⟨a, vs, rfl, q, t⟩ := seqL_ok s rx e1
      obtain ⟨rfl, _⟩ := asI_ok t e2
      refine .inr (.inr ⟨a, ks, rfl, q, fun ns p hp hs hn => ?_⟩)
      have e : ns = srt ltI ks := srt_eq sto_int (le_of_srt hs) hp
      subst e
      exact new_lst (M := X.md) s (rds_ints _) h hn
    · exact h.elim
  split at h
  · rename_i L eo
    split at h
    · rename_i ok
      obtain ⟨d, hd, hL⟩ := ok
      obtain ⟨a, rfl, ro⟩ := objOf_ok s rx eo
      cases ro with
      | @sT _ _ M hq ht he =>
        have inL : ∀ p ∈ M, p.2 ∈ L := fun p hp => (he p.2).mp (List.mem_map.mpr ⟨p, hp, rfl⟩)
        refine .inl ⟨a, M, d, 64, rfl, hq, fun p hp => SqT.of (ht p hp), hd, fun p hp => hL p.2 (inL p hp), fun L' p pm nd _ pw hn => ?_⟩
        have mem : ∀ q ∈ L', q ∈ M := fun q hq => pm.mem_iff.mp hq
        have bd : ∀ q ∈ L', q.2.length = d ∧ TS.Bd 64 q.2 := fun q hq => hL q.2 (inL q (mem q hq))
        have asc : (L'.map (·.2)).Pairwise (fun a b => lexB a b = true) := by
          rw [List.pairwise_map]
          have nd' : L'.Pairwise (fun a b => a.2 ≠ b.2) := List.pairwise_map.mp nd
          refine (List.pairwise_iff_getElem.mpr fun i j hi hj hij => ?_)
          have m1 := List.getElem_mem hi
          have m2 := List.getElem_mem hj
          have le := (List.pairwise_iff_getElem.mp pw) i j hi hj hij
          have ne := (List.pairwise_iff_getElem.mp nd') i j hi hj hij
          cases q : lexB L'[i].2 L'[j].2 with
          | true => rfl
          | false =>
            cases q2 : lexB L'[j].2 L'[i].2 with
            | false => exact (ne (sto_lex.tot _ _ q q2)).elim
            | true =>
              have b1 := bd _ m1
              have b2 := bd _ m2
              have := code_of_lex (b2.1.trans b1.1.symm) b2.2 b1.2 q2
              omega
        have e : L'.map (·.2) = srtU lexB L := srtU_eq sto_lex asc fun z => by
          rw [← he z]
          constructor
          · intro hz
            obtain ⟨q, hq, e⟩ := List.mem_map.mp hz
            exact List.mem_map.mpr ⟨q, mem q hq, e⟩
          · intro hz
            obtain ⟨q, hq, e⟩ := List.mem_map.mp hz
            exact List.mem_map.mpr ⟨q, pm.mem_iff.mpr hq, e⟩
        rw [← e] at h
        exact new_lst (M := X.md) s (rds_tups L' fun q hq => ht q (mem q hq)) h hn
    · exact h.elim
  · rename_i kvs eo
    split at h
    · rename_i ks ek
      split at h
      · rename_i hl
        obtain ⟨a, rfl, ro⟩ := objOf_ok s rx eo
        cases ro with
        | dK hq t =>
          refine .inr (.inl ⟨a, _, ks, rfl, .inl hq, intKeys_ok t ek, hl, fun ns p hp hs hn => ?_⟩)
          have e : ns = srt ltI ks := srt_eq sto_int (le_of_srt hs) hp
          subst e
          exact new_lst (M := X.md) s (rds_ints _) h hn
      · exact h.elim
    · exact h.elim
  · split at h
    · rename_i xs e1
      exact seq xs e1 h
    · exact h.elim
end

/-! ### methods of lists -/
abbrev F3 := R → R → Store → Out R
def fMeth0 (g : R → Store → Out R) (fo : FE) : FE := fun env st => (fo env st).bind fun ro st1 => match seqL st1 ro with
  | some _ => g ro st1
  | none => .stuck
def fMeth1 (g : F3) (fo fa : FE) : FE := fun env st => (fo env st).bind fun ro st1 => match seqL st1 ro with
  | some _ => (fa env st1).bind fun ra st2 => g ro ra st2
  | none => .stuck
def Mt0 (X : Cx) (r : V → List V → Hp → VK → Prop) (g : R → Store → Out R) : Prop := ∀ (W : WX) (σ : L2.St) (H H0 : Hp) (φ : List Addr) (st : Store) (ro : R) (o : V) (Q : VK),
  RS X.prog X.w X.K H φ st → RR X.prog X.w X.K H0 H φ ro o → PostE X.md W H φ σ (g ro st) Q → r o [] H Q
def Mt1 (X : Cx) (r : V → List V → Hp → VK → Prop) (g : F3) : Prop := ∀ (W : WX) (σ : L2.St) (H1 H H0 : Hp) (φ1 φ : List Addr) (st : Store) (ro ra : R) (o a : V) (Q : VK),
  Ext H1 φ1 H φ → RS X.prog X.w X.K H φ st → RR X.prog X.w X.K H0 H φ ro o → RR X.prog X.w X.K H1 H φ ra a → PostE X.md W H1 φ1 σ (g ro ra st) Q → r o [a] H Q
section
variable {X : Cx} {W : WX} {o a : Expr} {fo fa : FE} {name : Str} {apos cpos : Pos} {id : String} {r : V → List V → Hp → VK → Prop}
theorem se_meth0 {g : R → Store → Out R} (slot : Slot "list" name id) (hty : typeOf (.builtin id) = pure (.type "method_descriptor")) (hm : MtR X id r) (h1 : Mt0 X r g) (ho : SE X W o fo)
    (hbase : attributeBase o name X.env (eval o X.env) = eval o X.env := by rfl) (hline : (apos.endLine == cpos.line) = true := by rfl) : SE X W (.Call (.Attribute o name apos) [] [] cpos) (fMeth0 g fo) := by
  refine pe_imp (pe_bm0 PySem.F.plainAttrs_list slot hty hm ho hbase hline) fun σ H Q ⟨env, st, φ, a, q⟩ => ?_
  refine tE_seq a q fun ro st1 H1 φ1 v e1 a1 rv q1 => ?_
  split at q1
  · rename_i xs es
    obtain ⟨b, vs, rfl, hq, t⟩ := seqL_ok a1.rs rv es
    exact ⟨.inl ⟨rfl, vs, hq⟩, h1 W σ H1 H φ1 st1 ro _ Q a1.rs rv q1⟩
  · exact q1.elim
theorem se_meth1 {g : F3} (slot : Slot "list" name id) (hty : typeOf (.builtin id) = pure (.type "method_descriptor")) (hm : MtR X id r) (h1 : Mt1 X r g) (ho : SE X W o fo) (ha : SE X W a fa)
    (hbase : attributeBase o name X.env (eval o X.env) = eval o X.env := by rfl)
    (hfew : ((backTo cpos (starEach (a :: []) X.env)).all (fun x => !x.1) && (backToKw cpos (keywordEach [] X.env)).all (fun x => x.1.isSome)
      && decide ((a :: []).length + ([] : List Keyword).length + (if ([] : List Keyword).isEmpty then 0 else 1) < 30)) = true := by rfl)
    (hline : (apos.endLine == cpos.line) = true := by rfl) (hs : starEach (a :: []) X.env = (false, eval a X.env) :: starEach [] X.env := by rfl) (hplain : (backTo cpos (starEach [] X.env)).any (·.1) = false := by rfl) :
    SE X W (.Call (.Attribute o name apos) [a] [] cpos) (fMeth1 g fo fa) := by
  refine pe_imp (pe_bm PySem.F.plainAttrs_list slot hty hm ho (pa_cons ha pa_nil hs) hbase hfew hline hs hplain) fun σ H Q ⟨env, st, φ, a, q⟩ => ?_
  refine tE_seq a q fun ro st1 H1 φ1 v e1 a1 rv q1 => ?_
  split at q1
  · rename_i xs es
    obtain ⟨b, vs, rfl, hq, t⟩ := seqL_ok a1.rs rv es
    refine ⟨.inl ⟨rfl, vs, hq⟩, env, st1, φ1, a1, (PostE.bind0 q1).mono fun ra H2 φ2 st2 e2 s2 q2 y ry => ?_⟩
    exact h1 W σ H1 H2 H φ1 φ2 st2 ro ra _ y Q e2 s2 (rv.mono e2) ry q2
  · exact q1.elim
end
/-- the list named n in the store -/
def lstAt (st : Store) (n : Nat) : Option (List D) := match st[n]? with
  | some (.lst xs) => some xs
  | _ => none
theorem lstAt_some {st : Store} {n : Nat} {xs : List D} : lstAt st n = some xs ↔ st[n]? = some (.lst xs) := by
  unfold lstAt
  split
  · rename_i h; rw [h]; constructor
    · intro e; cases e; rfl
    · intro e; cases e; rfl
  · rename_i h; constructor
    · intro e; cases e
    · intro e; exact (h _ e).elim
def gAppend : F3 := fun ro ra st => match ro with
  | .v (.ref n) => match lstAt (alloc ra st).2 n with
    | some xs => if xs.length < 1000000 then .ok (.v .non) ((alloc ra st).2.set n (.lst (xs ++ [(alloc ra st).1]))) else .stuck
    | none => .stuck
  | _ => .stuck
def gExtend : F3 := fun ro ra st => match ro with
  | .v (.ref n) => match lstAt st n, seqM st ra with
    | some xs, some ys => if xs.length + ys.length ≤ 1000000 then .ok (.v .non) (st.set n (.lst (xs ++ ys))) else .stuck
    | _, _ => .stuck
  | _ => .stuck
def gPop : R → Store → Out R := fun ro st => match ro with
  | .v (.ref n) => match lstAt st n with
    | some xs => match xs[xs.length - 1]? with
      | some d => .ok (.v d) (st.set n (.lst xs.dropLast))
      | none => .stuck
    | none => .stuck
  | _ => .stuck
def gPopAt : F3 := fun ro ra st => match ro, ra with
  | .v (.ref n), .v (.int i) => match lstAt st n with
    | some xs => match ixN xs.length i with
      | some k => match xs[k]? with
        | some d => if xs.length ≤ 1000000 then .ok (.v d) (st.set n (.lst (xs.eraseIdx k))) else .stuck
        | none => .stuck
      | none => .stuck
    | none => .stuck
  | _, _ => .stuck
section
variable {M : Md} {H : Hp} {φ : List Addr} {st : Store} {n : Nat} {xs ys : List D}
/-- a list of the store is written -/
theorem write_lst {vs : List V} {a : Addr} (s : RS M.P M.w M.K H φ st) (h : φ[n]? = some a) (hq : H a = some (.lst vs)) (t : RDs M.K H φ xs vs) (ws : List V) (t' : RDs M.K H φ ys ws) :
    Ext H φ (upd H a (.lst ws)) φ ∧ RS M.P M.w M.K (upd H a (.lst ws)) φ (st.set n (.lst ys)) := by
  have ew : Ext H φ (upd H a (.lst ws)) φ := Ext.write (.lst hq t : RO M.P M.w M.K H φ _ a) h
  exact ⟨ew, s.write h (.lst hq t) (.lst upd_same (t'.mono ew.mono))⟩
theorem lst_at (s : RS M.P M.w M.K H φ st) (e : lstAt st n = some xs) : ∃ a vs, φ[n]? = some a ∧ H a = some (.lst vs) ∧ RDs M.K H φ xs vs := by
  obtain ⟨a, h1, ro⟩ := s.at_ (lstAt_some.mp e)
  cases ro with
  | lst q t => exact ⟨a, _, h1, q, t⟩
end
section
variable {X : Cx}
theorem ref_val {P : Program} {w : World} {K : PySem.W.Frag} {H0 H : Hp} {φ : List Addr} {n : Nat} {v : V} {a : Addr} (h : RR P w K H0 H φ (.v (.ref n)) v) (e : φ[n]? = some a) : v = .ref a := by
  cases h with
  | ref q => rw [e] at q; cases q; rfl
theorem mt1_append : Mt1 X rAppend gAppend := by
  intro W σ H1 H H0 φ1 φ st ro ra o a Q e s rro rra h
  unfold gAppend at h
  split at h
  · rename_i n
    obtain ⟨φ2, s2, r2, e2, m2⟩ := alloc_ok s rra e
    split at h
    · rename_i xs el
      split at h
      · rename_i hl
        obtain ⟨b, vs, hb, hq, t⟩ := lst_at (M := X.md) s2 el
        have eo : o = .ref b := ref_val (P := X.prog) (w := X.w) (H0 := H0) (RD.mono m2 rro) hb
        subst eo
        obtain ⟨ew, sw⟩ := write_lst (M := X.md) s2 hb hq t (vs ++ [a]) (t.append (.cons r2 .nil))
        exact ⟨b, vs, a, rfl, rfl, hq, by rw [← t.length]; exact line_of' hl, h _ φ2 (e2.trans ew) sw .non .non⟩
      · exact h.elim
    · exact h.elim
  · exact h.elim
theorem mt1_extend : Mt1 X rExtend gExtend := by
  intro W σ H1 H H0 φ1 φ st ro ra o a Q e s rro rra h
  unfold gExtend at h
  split at h
  · rename_i n
    split at h
    · rename_i xs ys el em
      split at h
      · rename_i hl
        obtain ⟨b, vs, hb, hq, t⟩ := lst_at (M := X.md) s el
        have eo : o = .ref b := ref_val rro hb
        subst eo
        obtain ⟨c, ws, rfl, hc, t2⟩ := seqM_ok s rra em
        obtain ⟨ew, sw⟩ := write_lst (M := X.md) s hb hq t (vs ++ ws) (t.append t2)
        exact ⟨b, c, vs, ws, rfl, rfl, hq, hc, by rw [← t.length, ← t2.length]; exact line_of hl, h _ φ (e.trans ew) sw .non .non⟩
      · exact h.elim
    · exact h.elim
  · exact h.elim
theorem mt0_pop : Mt0 X rPop gPop := by
  intro W σ H H0 φ st ro o Q s rro h
  unfold gPop at h
  split at h
  · rename_i n
    split at h
    · rename_i xs el
      split at h
      · rename_i d ed
        obtain ⟨b, vs, hb, hq, t⟩ := lst_at (M := X.md) s el
        have eo : o = .ref b := ref_val rro hb
        subst eo
        obtain ⟨v, ev, rv⟩ := t.get ed
        obtain ⟨ew, sw⟩ := write_lst (M := X.md) s hb hq t vs.dropLast t.dropLast
        exact ⟨b, vs, v, rfl, rfl, hq, by rw [← t.length]; exact ev, h _ φ ew sw v (rv.mono ew.mono)⟩
      · exact h.elim
    · exact h.elim
  · exact h.elim
theorem ix_lt {n : Nat} {i : Int} {k : Nat} (h : ixN n i = some k) : k < n := (ixN_seq h).2.1
theorem mt1_popAt : Mt1 X rPopAt gPopAt := by
  intro W σ H1 H H0 φ1 φ st ro ra o a Q e s rro rra h
  unfold gPopAt at h
  split at h
  · rename_i n i
    split at h
    · rename_i xs el
      split at h
      · rename_i k ek
        split at h
        · rename_i d ed
          split at h
          · rename_i hl
            obtain ⟨b, vs, hb, hq, t⟩ := lst_at (M := X.md) s el
            have eo : o = .ref b := ref_val rro hb
            subst eo
            obtain ⟨v, ev, rv⟩ := t.get ed
            obtain ⟨ew, sw⟩ := write_lst (M := X.md) s hb hq t (vs.eraseIdx k) (t.eraseIdx k)
            obtain ⟨k1, k2, k3, k4⟩ := ixN_seq ek
            have p63 : (1000000 : Int) < 2 ^ 63 := by decide
            refine ⟨b, vs, i, k, v, rfl, by rw [int_ok rra], hq, by omega, by omega, by rw [← t.length]; exact k1, ev, h _ φ (e.trans ew) sw v (rv.mono ew.mono)⟩
          · exact h.elim
        · exact h.elim
      · exact h.elim
    · exact h.elim
  · exact h.elim
end
section
variable {X : Cx} {W : WX} {o a : Expr} {fo fa : FE} {apos cpos : Pos}
theorem se_append (ho : SE X W o fo) (ha : SE X W a fa) (hbase : attributeBase o "append" X.env (eval o X.env) = eval o X.env := by rfl)
    (hfew : ((backTo cpos (starEach (a :: []) X.env)).all (fun x => !x.1) && (backToKw cpos (keywordEach [] X.env)).all (fun x => x.1.isSome)
      && decide ((a :: []).length + ([] : List Keyword).length + (if ([] : List Keyword).isEmpty then 0 else 1) < 30)) = true := by rfl)
    (hline : (apos.endLine == cpos.line) = true := by rfl) (hs : starEach (a :: []) X.env = (false, eval a X.env) :: starEach [] X.env := by rfl) (hplain : (backTo cpos (starEach [] X.env)).any (·.1) = false := by rfl) :
    SE X W (.Call (.Attribute o "append" apos) [a] [] cpos) (fMeth1 gAppend fo fa) := se_meth1 PySem.F.slot_list_append PySem.F.type_list_append mt_append mt1_append ho ha hbase hfew hline hs hplain
theorem se_extend (ho : SE X W o fo) (ha : SE X W a fa) (hbase : attributeBase o "extend" X.env (eval o X.env) = eval o X.env := by rfl)
    (hfew : ((backTo cpos (starEach (a :: []) X.env)).all (fun x => !x.1) && (backToKw cpos (keywordEach [] X.env)).all (fun x => x.1.isSome)
      && decide ((a :: []).length + ([] : List Keyword).length + (if ([] : List Keyword).isEmpty then 0 else 1) < 30)) = true := by rfl)
    (hline : (apos.endLine == cpos.line) = true := by rfl) (hs : starEach (a :: []) X.env = (false, eval a X.env) :: starEach [] X.env := by rfl) (hplain : (backTo cpos (starEach [] X.env)).any (·.1) = false := by rfl) :
    SE X W (.Call (.Attribute o "extend" apos) [a] [] cpos) (fMeth1 gExtend fo fa) := se_meth1 PySem.F.slot_list_extend PySem.F.type_list_extend mt_extend mt1_extend ho ha hbase hfew hline hs hplain
theorem se_pop (ho : SE X W o fo) (hbase : attributeBase o "pop" X.env (eval o X.env) = eval o X.env := by rfl) (hline : (apos.endLine == cpos.line) = true := by rfl) :
    SE X W (.Call (.Attribute o "pop" apos) [] [] cpos) (fMeth0 gPop fo) := se_meth0 PySem.F.slot_list_pop PySem.F.type_list_pop mt_pop mt0_pop ho hbase hline
theorem se_popAt (ho : SE X W o fo) (ha : SE X W a fa) (hbase : attributeBase o "pop" X.env (eval o X.env) = eval o X.env := by rfl)
    (hfew : ((backTo cpos (starEach (a :: []) X.env)).all (fun x => !x.1) && (backToKw cpos (keywordEach [] X.env)).all (fun x => x.1.isSome)
      && decide ((a :: []).length + ([] : List Keyword).length + (if ([] : List Keyword).isEmpty then 0 else 1) < 30)) = true := by rfl)
    (hline : (apos.endLine == cpos.line) = true := by rfl) (hs : starEach (a :: []) X.env = (false, eval a X.env) :: starEach [] X.env := by rfl) (hplain : (backTo cpos (starEach [] X.env)).any (·.1) = false := by rfl) :
    SE X W (.Call (.Attribute o "pop" apos) [a] [] cpos) (fMeth1 gPopAt fo fa) := se_meth1 PySem.F.slot_list_pop PySem.F.type_list_pop mt_popAt mt1_popAt ho ha hbase hfew hline hs hplain
end
end Fx

set_option Elab.async false
set_option linter.all false
set_option maxRecDepth 100000
set_option maxHeartbeats 4000000
set_option autoImplicit false
/-! Fx, part L: defs and their calls. -/
namespace Fx
open PySem PySem.Spec PyProof.Rows L2

/-! ### what is left of the store behind a call -/
mutual
/-- all references are below n -/
inductive Bl (n : Nat) : D → Prop
  | non : Bl n .non
  | bl (b : Bool) : Bl n (.bl b)
  | int (i : Int) : Bl n (.int i)
  | str (x : Str) : Bl n (.str x)
  | tup {xs : List D} (h : Bls n xs) : Bl n (.tup xs)
  | lz {xs : List D} (h : Bls n xs) : Bl n (.lz xs)
  | ref {m : Nat} (h : m < n) : Bl n (.ref m)
inductive Bls (n : Nat) : List D → Prop
  | nil : Bls n []
  | cons {d : D} {ds : List D} (h : Bl n d) (t : Bls n ds) : Bls n (d :: ds)
end
theorem Bls.of {n : Nat} : ∀ {ds : List D}, (∀ d ∈ ds, Bl n d) → Bls n ds
  | [], _ => .nil
  | d :: ds, h => .cons (h d List.mem_cons_self) (Bls.of fun e he => h e (List.mem_cons_of_mem _ he))
theorem Bls.mem {n : Nat} : ∀ {ds : List D}, Bls n ds → ∀ d ∈ ds, Bl n d
  | _, .cons h t, d, hd => by
    rcases List.mem_cons.mp hd with e | e
    · subst e; exact h
    · exact t.mem d e
def OBl (n : Nat) : O → Prop
  | .lst xs => Bls n xs
  | .dK kvs => ∀ p ∈ kvs, Bl n p.2
  | .dT kvs => ∀ p ∈ kvs, Bl n p.2
  | .sT _ => True
  | .sI _ => True
def EBl (n : Nat) (e : Ex) : Prop := ∀ p ∈ e.fs, Bl n p.2
/-- what stood ahead is as it was, or speaks of nothing new -/
def OldOk (st st' : Store) : Prop := st.length ≤ st'.length ∧ ∀ (i : Nat) (o : O), i < st.length → st'[i]? = some o → st[i]? = some o ∨ OBl st.length o
open Classical in
/-- new objects that nobody knows are forgotten; a new object handed back is nobody's -/
noncomputable def gc (st : Store) (o : Out R) : Out R := match o with
  | .ok r st' => if OldOk st st' then match r with
      | .o x => if OBl st.length x then .ok (.o x) (st'.take st.length) else .ok r st'
      | .v d => if Bl st.length d then .ok (.v d) (st'.take st.length) else match d with
        | .ref m => match st'[m]? with
          | some x => if OBl st.length x then .ok (.o x) (st'.take st.length) else .ok r st'
          | none => .ok r st'
        | _ => .ok r st'
    else .ok r st'
  | .exc e st' => if OldOk st st' ∧ EBl st.length e then .exc e (st'.take st.length) else .exc e st'
  | .stuck => .stuck
section
variable {K : PySem.W.Frag} {H H' : Hp} {φ φ' : List Addr} {n : Nat}
mutual
theorem RD.bnd : ∀ {d : D} {v : V}, RD K H φ d v → Bl φ.length d
  | _, _, .non => .non
  | _, _, .bl b => .bl b
  | _, _, .int i => .int i
  | _, _, .str x => .str x
  | _, _, .tup _ r => .tup (RDs.bnd r)
  | _, _, .lz _ r => .lz (RDs.bnd r)
  | _, _, .ref h => .ref (List.getElem?_eq_some_iff.mp h).1
theorem RDs.bnd : ∀ {ds : List D} {vs : List V}, RDs K H φ ds vs → Bls φ.length ds
  | _, _, .nil => .nil
  | _, _, .cons h t => .cons (RD.bnd h) (RDs.bnd t)
end
mutual
theorem RD.cut (e : φ = φ'.take n) : ∀ {d : D} {v : V}, RD K H φ' d v → Bl n d → RD K H φ d v
  | _, _, .non, _ => .non
  | _, _, .bl b, _ => .bl b
  | _, _, .int i, _ => .int i
  | _, _, .str x, _ => .str x
  | _, _, .tup h r, .tup b => .tup h (RDs.cut' e r b)
  | _, _, .lz h r, .lz b => .lz h (RDs.cut' e r b)
  | _, _, .ref h, .ref b => .ref (by rw [e, List.getElem?_take_of_lt b]; exact h)
theorem RDs.cut' (e : φ = φ'.take n) : ∀ {ds : List D} {vs : List V}, RDs K H φ' ds vs → Bls n ds → RDs K H φ ds vs
  | _, _, .nil, _ => .nil
  | _, _, .cons h t, .cons b bs => .cons (RD.cut e h b) (RDs.cut' e t bs)
end
theorem RKs.cut {κ : Type} (e : φ = φ'.take n) : ∀ {ds : List (κ × D)} {vs : List (κ × V)}, RKs K H φ' ds vs → (∀ p ∈ ds, Bl n p.2) → RKs K H φ ds vs
  | _, _, .nil, _ => .nil
  | _, _, .cons h t, b => .cons (h.cut e (b _ List.mem_cons_self)) (RKs.cut e t fun p hp => b p (List.mem_cons_of_mem _ hp))
theorem RKs.bnd {κ : Type} : ∀ {ds : List (κ × D)} {vs : List (κ × V)}, RKs K H φ ds vs → ∀ p ∈ ds, Bl φ.length p.2
  | _, _, .cons h t, p, hp => by
    rcases List.mem_cons.mp hp with e | e
    · subst e; exact h.bnd
    · exact t.bnd p e
theorem RO.cut {P : Program} {w : World} {o : O} {a : Addr} (e : φ = φ'.take n) (r : RO P w K H φ' o a) (b : OBl n o) : RO P w K H φ o a := by
  cases r with
  | lst h t => exact .lst h (t.cut' e b)
  | dK h t => exact .dK h (t.cut e b)
  | dT h t => exact .dT h (t.cut e b)
  | sT h t e => exact .sT h t e
  | sI h q e nd => exact .sI h q e nd
theorem RO.bnd {P : Program} {w : World} {o : O} {a : Addr} (r : RO P w K H φ o a) : OBl φ.length o := by
  cases r with
  | lst h t => exact t.bnd
  | dK h t => exact t.bnd
  | dT h t => exact t.bnd
  | sT h t e => trivial
  | sI h q e nd => trivial
theorem ros_of {P : Program} {w : World} : ∀ {st : Store} {as : List Addr}, st.length = as.length → (∀ (i : Nat) (o : O) (a : Addr), st[i]? = some o → as[i]? = some a → RO P w K H φ o a) → ROs P w K H φ st as
  | [], [], _, _ => .nil
  | [], _ :: _, h, _ => by simp at h
  | _ :: _, [], h, _ => by simp at h
  | o :: st, a :: as, h, k => .cons (k 0 o a rfl rfl) (ros_of (by simpa using h) fun i o' a' h1 h2 => k (i + 1) o' a' (by simpa using h1) (by simpa using h2))
/-- back to the old store -/
theorem RS.back {P : Program} {w : World} {st st' : Store} (s : RS P w K H φ st) (s' : RS P w K H' φ' st') (e : Ext H φ H' φ') (ok : OldOk st st') : RS P w K H' φ (st'.take st.length) ∧ Ext H φ H' φ ∧ φ = φ'.take st.length := by
  obtain ⟨ψ, hφ, q⟩ := id e.pre
  have hl : st.length = φ.length := s.len
  have et : φ = φ'.take st.length := by rw [hφ, hl, List.take_left]
  refine ⟨⟨s.nd, ros_of ?_ fun i o a h1 h2 => ?_⟩, ⟨⟨[], by simp, by simp⟩, e.tup, e.frz, e.keep, e.trk⟩, et⟩
  · rw [List.length_take, hl]
    have := ok.1
    rw [hl] at this
    omega
  · have hi : i < st.length := by rw [hl]; exact (List.getElem?_eq_some_iff.mp h2).1
    rw [List.getElem?_take_of_lt hi] at h1
    obtain ⟨o', e1, r⟩ := s'.os.get (e.get h2)
    rw [h1] at e1; cases e1
    refine r.cut et ?_
    rcases ok.2 i o hi h1 with z | z
    · obtain ⟨a', e2, r2⟩ := s.os.get' z
      have := r2.bnd
      rw [← hl] at this
      exact this
    · exact z
end
theorem gc_ok {M : Md} {W : WX} {H : Hp} {φ : List Addr} {σ : L2.St} {st : Store} {o : Out R} {Q : VK} (s : RS M.P M.w M.K H φ st) (h : PostE M W H φ σ (gc st o) Q) : PostE M W H φ σ o Q := by
  cases o with
  | stuck => exact h
  | exc x st' =>
    unfold gc at h
    simp only at h
    split at h
    · rename_i c
      refine fun H' φ' c' d e s' rx => ?_
      obtain ⟨s2, e2, et⟩ := s.back s' e c.1
      obtain ⟨C, g1, g2, g3⟩ := rx
      refine h H' φ c' d e2 s2 ⟨C, g1, g2, ?_⟩
      rcases g3 with z | ⟨dx, kvs, k1, k2, k3⟩
      · exact .inl z
      · exact .inr ⟨dx, kvs, k1, k2, k3.cut et c.2⟩
    · exact h
  | ok r st' =>
    unfold gc at h
    simp only at h
    split at h
    · rename_i ok
      refine fun H' φ' e s' v rv => ?_
      obtain ⟨s2, e2, et⟩ := s.back s' e ok
      have obj : ∀ x, OBl st.length x → (∃ a, v = .ref a ∧ RO M.P M.w M.K H' φ' x a ∧ a ∉ φ ∧ H a = none) → PostE M W H φ σ (.ok (.o x) (st'.take st.length)) Q → Q v H' := fun x bx ⟨a, ea, ro, na, hn⟩ p =>
        p H' φ e2 s2 v ⟨a, ea, ro.cut et bx, na, hn⟩
      split at h
      · rename_i x
        split at h
        · rename_i bx
          obtain ⟨a, ea, ro, na, hn⟩ := rv
          refine obj x bx ⟨a, ea, ro, fun z => na ?_, hn⟩ h
          obtain ⟨ψ, hφ, _⟩ := e.pre
          rw [hφ]; exact List.mem_append_left _ z
        · exact h H' φ' e s' v rv
      · rename_i d
        split at h
        · rename_i bd
          exact h H' φ e2 s2 v (RD.cut et rv bd)
        · rename_i nbd
          split at h
          · rename_i m
            split at h
            · rename_i x ex
              split at h
              · rename_i bx
                obtain ⟨a, o', ea, h1, h2, ro⟩ := s'.of_ref rv
                rw [ex] at h2; cases h2
                have hm : st.length ≤ m := Nat.le_of_not_lt fun z => nbd (.ref z)
                obtain ⟨ψ, hφ, q⟩ := id e.pre
                have hl : st.length = φ.length := s.len
                have ha : a ∈ ψ := by
                  rw [hφ, List.getElem?_append_right (by omega)] at h1
                  exact List.mem_of_getElem? h1
                refine obj x bx ⟨a, ea, ro, fun z => ?_, q a ha⟩ h
                have nd := s'.nd
                rw [hφ] at nd
                exact (List.nodup_append.mp nd).2.2 a z a ha rfl
              · exact h H' φ' e s' v rv
            · exact h H' φ' e s' v rv
          · exact h H' φ' e s' v rv
    · exact h

/-! ### defs -/
def retOf : OutS → Out R
  | .ret r s => .ok r s
  | .next _ s => .ok (.v .non) s
  | .exc x _ s => .exc x s
  | _ => .stuck
abbrev FF := List D → Store → Out R
noncomputable def mkF (n : Nat) (body : FS) : FF := fun ds st => gc st (retOf (body (ds.map some ++ List.replicate (n - ds.length) none) st))

/-- the def at f does what F says -/
structure FnG (P : Program) (w : World) (K : PySem.W.Frag) (mg : Str → Option Value) (base : Heap) (k : Nat) (f : Addr) (fd : FuncData) (ps : List Str) (F : FF) : Prop where
  run : ∀ (A : Around) (outer : List PySem.Env) (s : Shared) (H : Hp) (args : Args) (us : List Value) (vs : List V) (Q : VK) (E : XK) (φ : List Addr) (ds : List D) (st : Store), Room k A → A.guards = some [] → Env0 P w K mg base A outer s H →
    BindsTo s fd args (ps.zip us) → Vals vs us → vs.length = ps.length → RS P w K H φ st → RDs K H φ ds vs → PostE ⟨P, w, K, mg⟩ (fun c d _ H' => E c d H') H φ [] (F ds st) Q →
    codeAny (model P w) A (.call (.ref f) args) (CR (L2.CX P w) outer P w H s Q E) s
theorem FnG.mono {P : Program} {w : World} {K : PySem.W.Frag} {mg : Str → Option Value} {base : Heap} {j k : Nat} {f : Addr} {fd : FuncData} {ps : List Str} {F : FF} (G : FnG P w K mg base j f fd ps F) (h : j ≤ k) : FnG P w K mg base k f fd ps F :=
  ⟨fun A outer s H args us vs Q E φ ds st hr => G.run A outer s H args us vs Q E φ ds st (hr.mono h)⟩

/-- what the body of a def may lean on -/
structure Bd (X : Cx) (W : WX) (k : Nat) : Prop where
  cd : Cd X
  tk : Takes X W
  pa : PassesOwn (model X.prog X.w) X.A X.env X.xe
  rm : Room k X.A
theorem fnG_of {P : Program} {w : World} {K : PySem.W.Frag} {mg : Str → Option Value} {base : Heap} {k : Nat} {f : Addr} {x qual : Str} {stm : Stmt} {fd : FuncData} {N ps : List Str} {body : FS} (Fn : FunD K x qual (defArgs stm) (defBody stm) (defScope stm) [] [] f fd) (S : FnScope N ps (defScope stm))
    (hbody : ∀ (cdv : Value) (A : Around) (outer : List PySem.Env) (s : Shared) (H : Hp) (E : XK), Bd (cxOf (L2.CX P w) P w K mg base N qual (defScope stm) f cdv A outer s H E) (fun c d _ H' => E c d H') k →
      SSs (cxOf (L2.CX P w) P w K mg base N qual (defScope stm) f cdv A outer s H E) (fun c d _ H' => E c d H') (defBody stm) body) : FnG P w K mg base (k + 1) f fd ps (mkF N.length body) := by
  obtain ⟨oc, od, dV, kV, doc, pm, an, cdv, ct, osl, rfl, lk, hcd, _, _⟩ := Fn.ex
  refine ⟨fun A outer s H args us vs Q E φ ds st hr hg e0 hb r hl rs rd hp => ?_⟩
  have KX : K.In s.heap := e0.mod.kin.keeps fun b o e => (e0.bs b o e).1
  have lim : s.heap.NoLimit := e0.mod.nolimit.keeps fun b o e => (e0.bs b o e).1
  have hkind : ∀ y ∈ ps.zip us, (defScope stm).names.lookup y.1 = some .local ∨ ((defScope stm).names.lookup y.1 = some .cell ∧ ((cellsFrom (s.heap.objs.size + 1) (defScope stm).names []).lookup y.1).isSome = true) := fun ⟨n, v⟩ hy => by
    rcases S.par n (List.of_mem_zip hy).1 with q | q
    · exact .inl q
    · exact .inr ⟨q, PySem.W.cellsFrom_some _ _ _ (.inl q)⟩
  refine codeAny_call_function hr.depth (KX _ _ lk) rfl S.co S.gen rfl (PySem.W.codeRec_of KX hcd) (hb _ _ _ _ ?_)
  refine wpAny_newFunctionEnv_cells S.kind hkind fun env he s1 x => ?_
  subst he
  refine ⟨lim.keeps x.toInCall.keep, codeAny_func ?_⟩
  have hr' : Room k (A.deeper (envOfC qual (defScope stm) s.heap.objs.size f cdv)) := hr.deeper _
  have I : Inv (cxOf (L2.CX P w) P w K mg base N qual (defScope stm) f cdv A outer s H E) [] (L2.start N vs) H s1 := inv_start S hr.hd e0 hl r x
  have B : Bd (cxOf (L2.CX P w) P w K mg base N qual (defScope stm) f cdv A outer s H E) (fun c d _ H' => E c d H') k :=
    ⟨⟨rfl, by
      have := hr'.un
      show (A.deeper (envOfC qual (defScope stm) s.heap.objs.size f cdv)).units + 150 < cLine
      omega, hg⟩, takes_of rfl rfl rfl rfl, passes_of rfl, hr'⟩
  have hN : ps.length ≤ N.length := by have := congrArg List.length S.pre; rw [List.length_take] at this; omega
  have at0 : At ⟨P, w, K, mg⟩ (L2.start N vs) H (ds.map some ++ List.replicate (N.length - ds.length) none) st φ := by
    refine ⟨⟨?_, fun i d hd => ?_⟩, rs⟩
    · unfold L2.start
      simp only [List.length_append, List.length_map, List.length_replicate, rd.length]
    · by_cases hi : i < ds.length
      · rw [List.getElem?_append_left (by simpa using hi), List.getElem?_map] at hd
        cases e : ds[i]? with
        | none => rw [e] at hd; cases hd
        | some d' =>
          rw [e] at hd
          have : d' = d := by simpa using hd
          subst this
          obtain ⟨v, e1, r1⟩ := rd.get e
          refine ⟨v, ?_, r1⟩
          unfold L2.start
          rw [List.getElem?_append_left (by rw [List.length_map, ← rd.length]; exact hi), List.getElem?_map, e1]; rfl
      · rw [List.getElem?_append_right (by simpa using hi), List.getElem?_replicate] at hd
        split at hd <;> cases hd
  have p2 : PostE ⟨P, w, K, mg⟩ (fun c d _ H' => E c d H') H φ [] (retOf (body (ds.map some ++ List.replicate (N.length - ds.length) none) st)) Q := gc_ok rs hp
  refine wpAny_mono ((hbody cdv A outer s H E B).run [] s1 (L2.start N vs) H { nx := fun _ H' => Q .non H', rt := Q } I ⟨_, st, φ, at0, ?_⟩) (fun fl s' hs => ?_) fun e s' hs => hs
  · cases o : body (ds.map some ++ List.replicate (N.length - ds.length) none) st with
    | next e s => rw [o] at p2; exact fun H' φ' σ' ex a' => p2 H' φ' ex a'.rs _ .non
    | ret r s => rw [o] at p2; exact fun H' φ' v e s r => p2 H' φ' e s v r
    | brk e s => rw [o] at p2; exact p2.elim
    | cont e s => rw [o] at p2; exact p2.elim
    | exc y e s => rw [o] at p2; exact fun H' φ' σ' c d ex a' rx => p2 H' φ' c d ex a'.rs rx
    | stuck => rw [o] at p2; exact p2.elim
  · have fin : ∀ {σ' : L2.St} {H' : Hp} {v : V} {u : Value}, Inv (cxOf (L2.CX P w) P w K mg base N qual (defScope stm) f cdv A outer s H E) [] σ' H' s' → RelV v u → Q v H' → CE outer P w H s Q u s' :=
      fun {σ' H' v u} J rv q => ⟨v, H', J.os, J.bare, J.base, J.hok, rv, q⟩
    cases fl with
    | ret u =>
      obtain ⟨v, σ', H', J, rv, q⟩ := hs
      exact fin J rv q
    | next =>
      obtain ⟨σ', H', J, q⟩ := hs
      exact fin (v := V.non) (u := Value.none) J rfl q
    | brk =>
      obtain ⟨_, _, _, q⟩ := hs
      exact False.elim q
    | cont =>
      obtain ⟨_, _, _, q⟩ := hs
      exact False.elim q

/-! ### calls -/
noncomputable def fCall (F : FF) (g : FA) : FE := fun env st => gc st ((g env st).bind F)
/-- by names: the values in the parameters' order -/
def pick {α : Type} (ix : List Nat) (xs : List α) : List α := ix.filterMap fun i => xs[i]?
noncomputable def fCallK (F : FF) (ix : List Nat) (g : FA) : FE := fun env st => gc st ((g env st).bind fun ds st1 => F (pick ix ds) st1)
section
variable {X : Cx} {W : WX} {k : Nat} {f : Addr} {fd : FuncData} {ps : List Str} {F : FF} {x : Str} {p pos : Pos} {e : Expr} {es : List Expr} {g : FA}
theorem run_fnG {pins : List (Addr × Obj)} {σ : L2.St} {H : Hp} {s : Shared} {Q : VK} {us : List Value} {vs : List V} {φ : List Addr} {ds : List D} {st : Store} {kw : List (Str × Value)} {us' : List Value} (G : FnG X.prog X.w X.K X.mg X.base k f fd ps F) (hr : Room k X.A) (C : Cd X) (tk : Takes X W)
    (hb : BindsTo s fd ⟨us', kw⟩ (ps.zip us)) (I : Inv X pins σ H s) (r : Vals vs us) (hl : vs.length = ps.length) (rs : RS X.prog X.w X.K H φ st) (rd : RDs X.K H φ ds vs) (h : PostE X.md W H φ σ (F ds st) Q) : wpAny (model X.prog X.w) X.A (call (.ref f) us' kw) (EP X pins σ Q) X.xe s := by
  have h' : PostE ⟨X.prog, X.w, X.K, X.mg⟩ (fun c d _ H' => WE W σ c d H') H φ [] (F ds st) Q := by
    unfold PostE Post at h ⊢
    revert h
    generalize F ds st = o
    intro h
    cases o with
    | ok a st' => exact h
    | exc y st' => exact h
    | stuck => exact h
  refine wpAny_call (codeAny_mono (G.run X.A X.stack s H ⟨us', kw⟩ us vs Q (WE W σ) φ ds st hr C.hg I.env0 hb r hl rs rd h') fun r s' hq => ?_)
  cases r with
  | error e => exact passAt tk σ pins H s e s' I hq
  | ok fl =>
    cases fl with
    | ret u => exact I.after hq
    | next => exact False.elim hq
    | brk => exact False.elim hq
    | cont => exact False.elim hq
theorem se_call (G : FnG X.prog X.w X.K X.mg X.base k f fd ps F) (hr : Room k X.A) (C : Cd X) (tk : Takes X W) (hg : Gl X x) (hm : X.mg x = some (.ref f)) (hk : PySem.W.keepIn X.K (.ref f) = true) (hb : Binds X.K fd ps []) (hlen : (e :: es).length = ps.length)
    (ha : SA X W (e :: es) g) (hdb : (x == ("__debug__" : Str)) = false := by decide) (he : starEach (e :: es) X.env = (false, eval e X.env) :: starEach es X.env := by rfl) (hpl : (backTo pos (starEach es X.env)).any (·.1) = false := by rfl)
    (hgl : ∀ env st ds st', g env st = .ok ds st' → ds.length = (e :: es).length) :
    SE X W (.Call (.Name x p) (e :: es) [] pos) (fCall F g) := by
  refine ⟨fun pins s σ H Q I ⟨env, st, φ, a, q⟩ => ?_⟩
  refine wpAny_Call_Name_kw (ld_glob I hg hm ?_ hdb)
  have q' := gc_ok a.rs q
  have hgl' := hgl env st
  refine PySem.W.callWith_K (h₀ := X.base) I.ok.mod.kin hk (thn (ha.run pos pins s σ H (fun vs H1 => ∃ ds st1 φ1, Ext H φ H1 φ1 ∧ vs.length = ps.length ∧ RS X.prog X.w X.K H1 φ1 st1 ∧ RDs X.K H1 φ1 ds vs ∧ PostE X.md W H φ σ (F ds st1) Q) I ⟨env, st, φ, a, ?_⟩) fun us s1 ⟨vs, H1, I1, r, ds, st1, φ1, e1, hl, rs, rd, q1⟩ => ⟨I1.kIn, ?_⟩) he hpl
  · cases o : g env st with
    | ok ds st1 =>
      rw [o] at q'
      exact fun H' φ' ex s' vs rv => ⟨ds, st1, φ', ex, by rw [← rv.length, ← hlen]; exact hgl' ds st1 o, s', rv, q'⟩
    | exc y st1 => rw [o] at q'; exact q'
    | stuck => rw [o] at q'; exact q'
  · have b := hb s1 us I1.kIn (by rw [List.append_nil, ← r.length]; exact hl)
    rw [List.append_nil] at b
    exact run_fnG G hr C tk b I1 r hl rs rd (q1.rebase e1)
end
/-- f(a = .., b = ..) -/
abbrev SK (X : Cx) (W : WX) (kws : List Keyword) (g : FA) : Prop := PK X kws (tA X.md W g)
section
variable {X : Cx} {W : WX} {k : Nat} {f : Addr} {fd : FuncData} {ps ks : List Str} {F : FF} {x : Str} {p pos kpos : Pos} {e : Expr} {kws : List Keyword} {fe : FE} {g : FA} {nm : Option Str}
theorem sk_nil : SK X W [] fNil := ⟨fun pos pins s σ H Q I ⟨env, st, φ, a, q⟩ => pk_nil.run pos pins s σ H Q I (q H φ Ext.refl a.rs [] .nil)⟩
theorem sk_cons (he : SE X W e fe) (hr : SK X W kws g) : SK X W (⟨nm, e, kpos⟩ :: kws) (fCons fe g) := by
  refine ⟨fun pos pins s σ H Q I ⟨env, st, φ, a, h⟩ => (pk_cons he hr).run pos pins s σ H Q I ?_⟩
  refine ⟨env, st, φ, a, (Post.bind0 h).mono fun r H1 φ1 st1 e1 s1 q1 v rv => ?_⟩
  obtain ⟨φ2, s2, r2, e2, m2⟩ := alloc_ok s1 rv e1
  have a2 : At X.md σ H1 env (alloc r st1).2 φ2 := ⟨a.re.mono e2.mono, s2⟩
  have q2 := Post.rebase q1 e2
  refine ⟨env, _, φ2, a2, (PostA.bind q2).mono fun ds H3 φ3 st3 e3 s3 q3 vs rvs => ?_⟩
  exact q3 H3 φ3 Ext.refl s3 (v :: vs) (.cons (r2.mono e3.mono) rvs)
theorem pick_vals {ix : List Nat} {vs : List V} {us : List Value} (r : Vals vs us) : Vals (pick ix vs) (pick ix us) := by
  induction ix with
  | nil => exact .nil
  | cons i ix ih =>
    unfold pick at *
    rw [List.filterMap_cons, List.filterMap_cons]
    cases e : vs[i]? with
    | none => rw [Vals.none_of r e]; exact ih
    | some v =>
      obtain ⟨u, e1, r1⟩ := r.get e
      rw [e1]; exact .cons r1 ih
theorem pick_rds {K : PySem.W.Frag} {H : Hp} {φ : List Addr} {ix : List Nat} {ds : List D} {vs : List V} (r : RDs K H φ ds vs) : RDs K H φ (pick ix ds) (pick ix vs) := by
  induction ix with
  | nil => exact .nil
  | cons i ix ih =>
    unfold pick at *
    rw [List.filterMap_cons, List.filterMap_cons]
    cases e : ds[i]? with
    | none =>
      have : vs[i]? = none := by
        rw [List.getElem?_eq_none_iff] at e ⊢
        rw [← r.length]; exact e
      rw [this]; exact ih
    | some v =>
      obtain ⟨u, e1, r1⟩ := r.get e
      rw [e1]; exact .cons r1 ih
theorem se_callK {ix : List Nat} (G : FnG X.prog X.w X.K X.mg X.base k f fd ps F) (hr : Room k X.A) (C : Cd X) (tk : Takes X W) (hg : Gl X x) (hm : X.mg x = some (.ref f)) (hk : PySem.W.keepIn X.K (.ref f) = true)
    (hb : ∀ (s : Shared) (us : List Value), us.length = ks.length → BindsTo s fd ⟨[], ks.zip us⟩ (ps.zip (pick ix us))) (hix : ∀ vs : List V, vs.length = ks.length → (pick ix vs).length = ps.length)
    (ha : SK X W kws g) (hall : (backToKw pos (keywordEach kws X.env)).all (·.1.isSome) = true := by rfl) (hks : (backToKw pos (keywordEach kws X.env)).filterMap (·.1) = ks := by rfl)
    (hdb : (x == ("__debug__" : Str)) = false := by decide) (hpl : ((backTo pos (starEach [] X.env)).any (·.1) || (backToKw pos (keywordEach kws X.env)).any (·.1.isNone)) = false := by rfl)
    (hgl : ∀ env st ds st', g env st = .ok ds st' → ds.length = ks.length) :
    SE X W (.Call (.Name x p) [] kws pos) (fCallK F ix g) := by
  refine ⟨fun pins s σ H Q I ⟨env, st, φ, a, q⟩ => ?_⟩
  refine wpAny_Call_Name_kw (ld_glob I hg hm ?_ hdb)
  have q' := gc_ok a.rs q
  have hgl' := hgl env st
  refine PySem.W.callWith_KW0 (h₀ := X.base) I.ok.mod.kin hk hall (thn (ha.run pos pins s σ H (fun vs H1 => ∃ ds st1 φ1, Ext H φ H1 φ1 ∧ vs.length = ks.length ∧ RS X.prog X.w X.K H1 φ1 st1 ∧ RDs X.K H1 φ1 ds vs ∧ PostE X.md W H φ σ (F (pick ix ds) st1) Q) I ⟨env, st, φ, a, ?_⟩) fun us s1 ⟨vs, H1, I1, r, ds, st1, φ1, e1, hl, rs, rd, q1⟩ => ⟨I1.kIn, ?_⟩) hpl
  · cases o : g env st with
    | ok ds st1 =>
      rw [o] at q'
      exact fun H' φ' ex s' vs rv => ⟨ds, st1, φ', ex, by rw [← rv.length]; exact hgl' ds st1 o, s', rv, q'⟩
    | exc y st1 => rw [o] at q'; exact q'
    | stuck => rw [o] at q'; exact q'
  · rw [hks]
    exact run_fnG G hr C tk (hb s1 us (by rw [← r.length]; exact hl)) I1 (pick_vals r) (hix vs hl) rs (pick_rds rd) (q1.rebase e1)
end

/-! ### the end of a law -/
theorem law_callG {P : Program} {w : World} {K : PySem.W.Frag} {mg mb : Str → Option Value} {k : Nat} {fa a : Addr} {fd : FuncData} {x : Str} {F : FF} {s₁ : Shared} {vs : List Value} {ns : List Int}
    (KX : K.In s₁.heap) (hns : s₁.heap.Ns mainGlobals mg) (hb : s₁.heap.Ns builtinsNs mb) (hbb : ∀ x : Str, x ≠ "__name__" → mb x = bootBuiltins x) (hlim : s₁.heap.NoLimit) (hg : s₁.gens = #[])
    (ha : s₁.heap.get? a = some { cls := .type "list", data := .seq vs.toArray }) (hi : IntsAre vs ns) (hl : ns.length ≤ sizeLine) (hr : Room k callerA)
    (G : ∀ base : Heap, K.In base → base.Ns mainGlobals mg → FnG P w K mg base k fa fd [x] F) (hbind : ∀ (s : Shared) (u : Value), BindsTo s fd ⟨[u], []⟩ [(x, u)])
    (hF : ∃ st', F [.lz (ns.map .int)] [] = .ok (.v (.bl true)) st') :
    codeAny (model P w) callerA (.call (.ref fa) ⟨[.ref a], []⟩) (fun r s' => r = .ok (.ret (.bool true)) ∧ OldK s₁.heap s'.heap ∧ s'.os = s₁.os ∧ AllBare s'.gens) s₁ := by
  have rv := vals_ints hi
  have lenV := hi.length
  have core : ∀ H : Hp, Only H → SqL K H a (ns.map V.int) → HOk P w H s₁.heap → (∀ b, H b ≠ none → b = a) → (H a ≠ none → K.lookup a = none) →
      codeAny (model P w) callerA (.call (.ref fa) ⟨[.ref a], []⟩) (fun r s' => r = .ok (.ret (.bool true)) ∧ OldK s₁.heap s'.heap ∧ s'.os = s₁.os ∧ AllBare s'.gens) s₁ := by
    intro H hO hS hok hA hK
    have base_of : ∀ {b : Addr} {o : Obj}, s₁.heap.get? b = some o → H b = none → (hidT s₁.heap H).get? b = some o := fun e n => hidT_get e n
    have noA : ∀ {b : Addr} {o : Obj} {es : Array DictEntry} {ep : Nat}, s₁.heap.get? b = some o → o.data = .dict es ep → H b = none := fun {b o es ep} e d => by
      cases q : H b with
      | none => rfl
      | some u =>
        have e' : b = a := hA b (by rw [q]; simp)
        subst e'
        rw [ha] at e; cases e
        have d' : Data.seq vs.toArray _ = Data.dict es ep := d
        cases d'
    have nsK : ∀ {b : Addr} {m : Str → Option Value}, s₁.heap.Ns b m → (hidT s₁.heap H).Ns b m := fun {b m} ⟨o, es, ep, e, d, r⟩ => ⟨o, es, ep, base_of e (noA e d), d, r⟩
    have hKb : K.In (hidT s₁.heap H) := fun b o e => base_of (KX b o e) (by
      cases q : H b with
      | none => rfl
      | some u =>
        have e' : b = a := hA b (by rw [q]; simp)
        subst e'
        rw [hK (by rw [q]; simp)] at e; cases e)
    have hM : Mod K mg (hidT s₁.heap H) := ⟨hKb, nsK hns, ⟨mb, nsK hb, hbb⟩, let ⟨mc, h1, h2⟩ := hlim; ⟨mc, nsK h1, h2⟩⟩
    have e0 : Env0 P w K mg (hidT s₁.heap H) callerA [] s₁ H := ⟨rfl, hM, fun b o e => of_hidT e, Nat.le_of_eq (hidT_size _ _), trivial, fun b hb => absurd (show b ∈ ([] : List Addr) from hb) (by simp), hok, .of_eq hg⟩
    have fz : FzL K H a (ns.map V.int) := by
      rcases hS with (q | q) | q
      · rcases hO a with z | ⟨o, xs, z⟩
        · rw [q] at z; cases z
        · rw [q] at z; cases z
      · exact .inl q
      · exact .inr q
    obtain ⟨st', hF⟩ := hF
    refine codeAny_mono ((G _ hKb (nsK hns)).run callerA [] s₁ H ⟨[.ref a], []⟩ [.ref a] [.ref a] (fun v _ => v = .bl true) (fun _ _ _ => False) [] [.lz (ns.map .int)] [] hr rfl e0 (hbind s₁ (.ref a)) (.cons rfl .nil) rfl ⟨List.nodup_nil, .nil⟩ (.cons (.lz fz (rds_ints ns)) .nil) ?_) fun r s' h => ?_
    · rw [hF]
      exact fun H' φ' e s v rv => bl_ok (P := P) (w := w) (H0 := H) rv
    cases r with
    | error e =>
      obtain ⟨_, _, _, _, _, _, _, _, _, _, _, _, z⟩ := h
      exact z.elim
    | ok fl =>
      cases fl with
      | next => exact False.elim h
      | brk => exact False.elim h
      | cont => exact False.elim h
      | ret u =>
        obtain ⟨v, H', os, bare, un, hok', r', q⟩ := h
        have q' : v = .bl true := q
        subst q'
        obtain rfl : u = Value.bool true := r'
        refine ⟨rfl, OldK.of_keep fun b o e => ?_, os, bare⟩
        cases q : H b with
        | none => exact un.keep b o e q (by intro z; exact absurd (show b ∈ ([] : List Addr) from z) (by simp)) (by simp)
        | some u =>
          rcases hO b with z | ⟨ob, xs, z⟩
          · rw [q] at z; cases z
          · have z2 := un.frzs b ob _ z
            obtain ⟨e1, _⟩ := hok b _ z
            obtain ⟨e2, _⟩ := hok' b _ z2
            rw [e] at e1; cases e1
            exact e2
  cases hk : K.lookup a with
  | some o =>
    have e := KX a o hk
    rw [ha] at e
    cases e
    refine core (fun _ => none) (fun _ => .inl rfl) (.inr ⟨_, vs.toArray, _, hk, rfl, rfl, rfl, by rw [List.size_toArray, lenV]; exact hl, by simpa using rv⟩) (fun b u z => by have z' : (none : Option HO) = some u := z; cases z') (fun b z => absurd rfl z) fun z => absurd rfl z
  | none =>
    refine core (fun b => if b = a then some (.frz { cls := .type "list", data := .seq vs.toArray } (.lst (ns.map V.int))) else none) (fun b => ?_) (.inl (.inr ⟨{ cls := .type "list", data := .seq vs.toArray }, if_pos rfl⟩)) (fun b u z => ?_) (fun b z => ?_) fun _ => hk
    · by_cases hb : b = a
      · exact .inr ⟨_, _, if_pos hb⟩
      · exact .inl (if_neg hb)
    · by_cases hb : b = a
      · have z' := (if_pos hb).symm.trans z
        cases z'
        subst hb
        exact ⟨ha, by rw [List.length_map]; exact hl, vs, _, rv, ha⟩
      · have z' := (if_neg hb).symm.trans z
        cases z'
    · by_cases hb : b = a
      · exact hb
      · exact absurd (if_neg hb) z
theorem walk_G {l : PySem.W.OpenLaw} {n k : Nat} {q : Program} {loose : List Str} {XP : (Str → Option Value) → Heap → Prop} {YP : World → Heap → Prop} {d : DefRec} {x : Str} {F : FF}
    (hn : l.most = some n) (hn2 : n ≤ sizeLine) (hdf : d.params.defaults = []) (hr : Room k callerA)
    (G : ∀ (w : World) (mg : Str → Option Value) (fa : Addr) (h : Heap), YP w h → h.Ns mainGlobals mg → mg d.name = some (.ref fa) →
      ∃ (K : PySem.W.Frag) (fd : FuncData), K.In h ∧ (∀ (s : Shared) (u : Value), BindsTo s fd ⟨[u], []⟩ [(x, u)]) ∧ ∀ base : Heap, K.In base → base.Ns mainGlobals mg → FnG l.prog w K mg base k fa fd [x] F)
    (hF : ∀ ns : List Int, ns.length ≤ n → (∀ z ∈ ns, Builtin.Int.intBits z ≤ 1048576) → ∃ st', F [.lz (ns.map .int)] [] = .ok (.v (.bl true)) st') :
    PySem.W.WalkO q loose XP YP l.row.toRowW d [] (fun f vs => PySem.call f vs) := by
  refine Att.attach_callB hn hdf fun w s₀ s₁ mg mb fa o pm cd doc a vs ns Gd Y ho hd hcd hmg hobj hints hlen hbits hg => ?_
  obtain ⟨K, fd, KX, hb, hG⟩ := G w mg fa _ Y Gd.T.g hmg
  exact law_callG KX Gd.T.g Gd.T.b Gd.T.builtins Gd.T.nolimit hg hobj hints (Nat.le_trans hlen hn2) hr hG hb (hF ns hlen hbits)
end Fx

set_option Elab.async false
set_option linter.all false
set_option maxRecDepth 100000
set_option maxHeartbeats 4000000
set_option autoImplicit false
/-! Fx, part M: zip and enumerate over lists and tuples, whatever the target is. -/
namespace Fx
open PySem PySem.Spec PyProof.Rows L2
open Sem (wp)

/-- zip's record: its first two cells may be anything that a walk leaves there -/
abbrev Zf (h : Heap) (z TI TO : Addr) (f0 : Value) (f1 : Bool) : Prop :=
  h.get? z = some { cls := .type "zip", dict := none, data := .fields #[f0, .bool f1, .bool false, .ref TI, .ref TO], slots := #[] }
def ZOut (h : Heap) (z TI TO : Addr) : Prop := ∃ f0 f1, Zf h z TI TO f0 f1 ∧ (f0 = .none ∨ ∃ T : Addr, f0 = rawInt T)
section
variable {prog : Program} {w : World} {A : Around} {E : Value → Shared → Prop} {s : Shared} {z TI TO i1 i2 : Addr} {fp1 fp2 : List Addr} {n1 n2 i : Nat} {P1 P2 : Nat → Value → Prop} {St1 St2 : Nat → Heap → Prop} {a1 a2 : Value}
/-- one step, then another -/
theorem bd {α β : Type} {M : Model} {m : Sem α} {k : α → Sem β} {Q : β → Shared → Prop} (h : wpAny M A m (fun a s1 => wpAny M A (k a) Q E s1) E s) : wpAny M A (m >>= k) Q E s := wpAny_bind h
theorem alive {a : Addr} {Q : Option Obj → Shared → Prop} (h : Q (s.heap.get? a) s) : wpAny (model prog w) A (loadIfAlive a) Q E s := fun _ _ _ => h
theorem zip_owned {Q : Bool → Shared → Prop} (hz : ZOut s.heap z TI TO) (ht : ∀ f0 f1, Zf s.heap z TI TO f0 f1 → Q true s) (hf : ∀ h' T, Zf h' z TI TO (rawInt (T : Nat)) true → Heap.SameBut z s.heap h' → Q false { s with heap := h' }) :
    wpAny (model prog w) A (Builtin.SmallTypes.ownedTupleIsFree (.ref z)) Q E s := by
  obtain ⟨f0, f1, h, e | ⟨T, e⟩⟩ := hz
  · subst e
    unfold Builtin.SmallTypes.ownedTupleIsFree
    exact bd (wpAny_field h rfl (x := Value.none) rfl (wpAny_pure (ht _ _ h)))
  · subst e
    cases g : s.heap.get? T with
    | some o => exact wpAny_tupleHeld_zip h g fun h' k1 k2 => hf h' T k1 k2
    | none =>
      unfold Builtin.SmallTypes.ownedTupleIsFree
      refine bd (wpAny_field h rfl (x := rawInt (T : Nat)) rfl ?_)
      show wpAny _ _ (loadIfAlive (((T : Nat) : Int).toNat) >>= _) _ _ _
      rw [Int.toNat_natCast]
      refine bd (alive ?_)
      rw [g]
      exact wpAny_pure (ht _ _ h)
theorem zOut_of {h : Heap} {f1 : Bool} {T : Nat} (k : Zf h z TI TO (rawInt T) f1) : ZOut h z TI TO := ⟨_, _, k, .inr ⟨T, rfl⟩⟩
/-- what is left as it was -/
abbrev Left (z TO i1 i2 : Addr) (h h' : Heap) : Prop := ∀ c o, c ≠ z → c ≠ TO → c ≠ i1 → c ≠ i2 → h.get? c = some o → h'.get? c = some o
abbrev ZAll (St1 St2 : Nat → Heap → Prop) (i : Nat) (h : Heap) (z TI TO i1 i2 : Addr) : Prop := ZOut h z TI TO ∧ (∃ x y, IsTupOf2 h TO x y) ∧ St1 i h ∧ St2 i h
theorem zip_goes {Q : Value → Shared → Prop} (S : ZipSep2 z TI TO i1 i2 fp1 fp2) (D1 : Draws prog w A i1 fp1 n1 P1 St1) (D2 : Draws prog w A i2 fp2 n2 P2 St2)
    (hI : IsTupOf2 s.heap TI (.ref i1) (.ref i2)) (hA : ZAll St1 St2 i s.heap z TI TO i1 i2) (l1 : i < n1) (l2 : i < n2)
    (k : ∀ x1 x2 h' tk, P1 i x1 → P2 i x2 → ZAll St1 St2 (i + 1) h' z TI TO i1 i2 → IsTupOf2 h' s.heap.objs.size x1 x2 → h'.objs.size = s.heap.objs.size + 1 → Left z TO i1 i2 s.heap h' → Q (.ref s.heap.objs.size) { s with heap := h', toks := tk }) :
    wpAny (model prog w) A (Builtin.«zip.__next__» ⟨[.ref z], []⟩) (fun fin s' => ∃ v, fin = .done (.ret v) ∧ Q v s') E s := by
  obtain ⟨hp, g, d, tk0, os⟩ := s
  obtain ⟨hz, ⟨u1, u2, hO⟩, w1, w2⟩ := hA
  obtain ⟨f0, f1, hZ, hf0⟩ := id hz
  show wpAny _ _ (field (.ref z) 2 >>= _) _ _ ⟨hp, g, d, tk0, os⟩
  refine bd (wpAny_field hZ rfl (x := Value.bool false) rfl ?_)
  show wpAny _ _ (field (.ref z) 3 >>= _) _ _ ⟨hp, g, d, tk0, os⟩
  refine bd (wpAny_field hZ rfl (x := Value.ref TI) rfl (bd (wpAny_seqItems hI rfl ?_)))
  show wpAny _ _ (Builtin.SmallTypes.ownedTupleIsFree (.ref z) >>= _) _ _ ⟨hp, g, d, tk0, os⟩
  refine bd (zip_owned hz (fun f0 f1 hZ => ?_) fun hh T hT sT => ?_)
  · show wpAny _ _ (rule _ >>= _) _ _ _
    refine bd (wpAny_rule (bd (wpAny_field hZ rfl (x := Value.ref TO) rfl (bd (wpAny_setField_rec hZ (by simp) fun b0 z0 e0 => bd ?_)))))
    have z0' : Zf b0 z TI TO .ellipsis f1 := z0
    have e0' : Heap.SameBut z hp b0 := e0
    simp only [List.zipIdx_nil, List.zipIdx_cons, List.forIn_nil, List.forIn_cons]
    refine bd (bd (wpAny_onRaise ?_))
    show wpAny _ _ (Builtin.SmallTypes.nextOf (Value.ref i1) >>= _) _ _ ⟨b0, g, d, tk0, os⟩
    refine bd (D1.item i _ _ _ l1 (D1.over w1 e0' S.zf1) fun x1 b1 t1 y1 w1a e1 => wpAny_pure ?_)
    have e1' : Heap.SameBut i1 b0 b1 := e1
    have O1 : IsTupOf2 b1 TO u1 u2 := e1'.extBut _ _ S.Ti1 (e0'.extBut _ _ S.TOz hO)
    refine bd (wpAny_seqItems (s := ⟨b1, g, d, t1, os⟩) O1 rfl (bd (updateSeq_IsTupOf2 (s := ⟨b1, g, d, t1, os⟩) O1 fun b2 O2 e2 => bd (wpAny_letGo (wpAny_pure ?_)))))
    have O2' : IsTupOf2 b2 TO x1 u2 := O2
    have e2' : Heap.SameBut TO b1 b2 := e2
    refine bd (bd (wpAny_onRaise ?_))
    show wpAny _ _ (Builtin.SmallTypes.nextOf (Value.ref i2) >>= _) _ _ ⟨b2, g, d, t1, os⟩
    refine bd (D2.item i _ _ _ l2 (D2.over (D2.over (D2.over w2 e0' S.zf2) e1' S.sep1_2) e2' S.Tf2) fun x2 b3 t2 y2 w2a e3 => wpAny_pure ?_)
    have e3' : Heap.SameBut i2 b2 b3 := e3
    have O3 : IsTupOf2 b3 TO x1 u2 := e3'.extBut _ _ S.Ti2 O2'
    refine bd (wpAny_seqItems (s := ⟨b3, g, d, t2, os⟩) O3 rfl (bd (updateSeq_IsTupOf2 (s := ⟨b3, g, d, t2, os⟩) O3 fun b4 O4 e4 => bd (wpAny_letGo (wpAny_pure (wpAny_pure ?_))))))
    have O4' : IsTupOf2 b4 TO x1 x2 := O4
    have e4' : Heap.SameBut TO b3 b4 := e4
    refine bd (wpAny_seqItems (s := ⟨b4, g, d, t2, os⟩) O4' rfl (bd (wpAny_newTuple ?_)))
    have sz : b4.objs.size = hp.objs.size := ((e4'.1.trans e3'.1).trans (e2'.1.trans e1'.1)).trans e0'.1
    have zz : Zf b4 z TI TO .ellipsis f1 := e4'.extBut _ _ S.TOz.symm (e3'.extBut _ _ S.zi2 (e2'.extBut _ _ S.TOz.symm (e1'.extBut _ _ S.zi1 z0')))
    have lf : Left z TO i1 i2 hp b4 := fun c o cz cT c1 c2 e => e4'.extBut _ _ cT (e3'.extBut _ _ c2 (e2'.extBut _ _ cT (e1'.extBut _ _ c1 (e0'.extBut _ _ cz e))))
    have q1 : St1 (i + 1) b4 := D1.over (D1.over (D1.over w1a e2' S.Tf1) e3' S.sep2_1) e4' S.Tf1
    have q2 : St2 (i + 1) b4 := D2.over w2a e4' S.Tf2
    have zl : z < b4.objs.size := Heap.lt_size zz
    show wpAny _ _ (Builtin.SmallTypes.ownedTupleHandOut (.ref z) (.ref b4.objs.size) >>= _) _ _ ⟨b4.push { cls := .type "tuple", data := .seq #[x1, x2] }, g, d, t2, os⟩
    refine bd ?_
    unfold Builtin.SmallTypes.ownedTupleHandOut
    have z5 : Zf (b4.push { cls := .type "tuple", data := .seq #[x1, x2] }) z TI TO .ellipsis f1 := Heap.get?_push_of_some _ zz
    refine bd (wpAny_setField_rec z5 (by simp) fun b6 z6 e6 => ?_)
    have z6' : Zf b6 z TI TO (rawInt b4.objs.size) f1 := z6
    have e6' : Heap.SameBut z (b4.push { cls := .type "tuple", data := .seq #[x1, x2] }) b6 := e6
    refine wpAny_setField_rec z6' (by simp) fun b7 z7 e7 => wpAny_pure ⟨_, rfl, ?_⟩
    have z7' : Zf b7 z TI TO (rawInt b4.objs.size) false := z7
    have e7' : Heap.SameBut z b6 b7 := e7
    have up : ∀ c o, c ≠ z → b4.get? c = some o → b7.get? c = some o := fun c o cz e => e7'.extBut _ _ cz (e6'.extBut _ _ cz (Heap.get?_push_of_some _ e))
    have new : IsTupOf2 b7 b4.objs.size x1 x2 := e7'.extBut _ _ (Nat.ne_of_gt zl) (e6'.extBut _ _ (Nat.ne_of_gt zl) (Heap.get?_push_size _ rfl))
    have sz7 : b7.objs.size = b4.objs.size + 1 := (e7'.1.trans e6'.1).trans (Heap.size_push ..)
    show Q (.ref b4.objs.size) ⟨b7, g, d, t2, os⟩
    rw [sz] at z7' new sz7 ⊢
    exact k x1 x2 b7 t2 y1 y2 ⟨zOut_of z7', ⟨x1, x2, up _ _ S.TOz O4'⟩, D1.frame _ _ _ q1 fun b hb o e => up b o (fun q => S.zf1 (q ▸ hb)) e, D2.frame _ _ _ q2 fun b hb o e => up b o (fun q => S.zf2 (q ▸ hb)) e⟩ new sz7
      fun c o cz cT c1 c2 e => up c o cz (lf c o cz cT c1 c2 e)
  · have sT' : Heap.SameBut z hp hh := sT
    show wpAny _ _ _ _ _ ⟨hh, g, d, tk0, os⟩
    simp only [Bool.false_eq_true, if_false]
    refine bd ?_
    rw [← Array.forIn_toList]
    simp only [List.forIn_nil, List.forIn_cons]
    refine bd (bd (wpAny_holding ?_))
    show wpAny _ _ (Builtin.SmallTypes.nextOf (Value.ref i1) >>= _) _ _ ⟨hh, g, d, tk0, os⟩
    refine bd (D1.item i _ _ _ l1 (D1.over w1 sT' S.zf1) fun x1 b1 t1 y1 w1a e1 => wpAny_pure (wpAny_pure ?_))
    have e1' : Heap.SameBut i1 hh b1 := e1
    refine bd (bd (wpAny_holding ?_))
    show wpAny _ _ (Builtin.SmallTypes.nextOf (Value.ref i2) >>= _) _ _ ⟨b1, g, d, t1, os⟩
    refine bd (D2.item i _ _ _ l2 (D2.over (D2.over w2 sT' S.zf2) e1' S.sep1_2) fun x2 b2 t2 y2 w2a e2 => wpAny_pure (wpAny_pure (wpAny_pure ?_)))
    have e2' : Heap.SameBut i2 b1 b2 := e2
    show wpAny _ _ (newTuple [x1, x2] >>= _) _ _ ⟨b2, g, d, t2, os⟩
    refine bd (wpAny_newTuple (wpAny_pure ⟨_, rfl, ?_⟩))
    have sz : b2.objs.size = hp.objs.size := (e2'.1.trans e1'.1).trans sT'.1
    have zz : Zf b2 z TI TO (rawInt (T : Nat)) true := e2'.extBut _ _ S.zi2 (e1'.extBut _ _ S.zi1 hT)
    have lf : Left z TO i1 i2 hp b2 := fun c o cz cT c1 c2 e => e2'.extBut _ _ c2 (e1'.extBut _ _ c1 (sT'.extBut _ _ cz e))
    have q1 : St1 (i + 1) b2 := D1.over w1a e2' S.sep2_1
    have up : ∀ c o, b2.get? c = some o → (b2.push { cls := .type "tuple", data := .seq #[x1, x2] }).get? c = some o := fun c o e => Heap.get?_push_of_some _ e
    have new : IsTupOf2 (b2.push { cls := .type "tuple", data := .seq #[x1, x2] }) b2.objs.size x1 x2 := Heap.get?_push_size _ rfl
    have sz7 : (b2.push { cls := .type "tuple", data := .seq #[x1, x2] }).objs.size = b2.objs.size + 1 := Heap.size_push ..
    show Q (.ref b2.objs.size) ⟨b2.push { cls := .type "tuple", data := .seq #[x1, x2] }, g, d, t2, os⟩
    have O : IsTupOf2 b2 TO u1 u2 := e2'.extBut _ _ S.Ti2 (e1'.extBut _ _ S.Ti1 (sT'.extBut _ _ S.TOz hO))
    rw [sz] at new sz7 ⊢
    exact k x1 x2 _ t2 y1 y2 ⟨zOut_of (up _ _ zz), ⟨u1, u2, up _ _ O⟩, D1.frame _ _ _ q1 fun b hb o e => up b o e, D2.frame _ _ _ w2a fun b hb o e => up b o e⟩ new sz7
      fun c o cz cT c1 c2 e => up c o (lf c o cz cT c1 c2 e)
theorem zip_ends {Q : Fin → Shared → Prop} (S : ZipSep2 z TI TO i1 i2 fp1 fp2) (D1 : Draws prog w A i1 fp1 n1 P1 St1) (D2 : Draws prog w A i2 fp2 n2 P2 St2)
    (hI : IsTupOf2 s.heap TI (.ref i1) (.ref i2)) (hA : ZAll St1 St2 i s.heap z TI TO i1 i2) (l1 : i ≤ n1) (l2 : i ≤ n2) (he : i = n1 ∨ i = n2)
    (hE : ∀ h' tk e, Left z TO i1 i2 s.heap h' → (∃ o, h'.get? e = some o ∧ o.cls = .type "StopIteration") → E (.ref e) { s with heap := h', toks := tk }) :
    wpAny (model prog w) A (Builtin.«zip.__next__» ⟨[.ref z], []⟩) Q E s := by
  obtain ⟨hp, g, d, tk0, os⟩ := s
  obtain ⟨hz, ⟨u1, u2, hO⟩, w1, w2⟩ := hA
  obtain ⟨f0, f1, hZ, hf0⟩ := id hz
  show wpAny _ _ (field (.ref z) 2 >>= _) _ _ ⟨hp, g, d, tk0, os⟩
  refine bd (wpAny_field hZ rfl (x := Value.bool false) rfl ?_)
  show wpAny _ _ (field (.ref z) 3 >>= _) _ _ ⟨hp, g, d, tk0, os⟩
  refine bd (wpAny_field hZ rfl (x := Value.ref TI) rfl (bd (wpAny_seqItems hI rfl ?_)))
  show wpAny _ _ (Builtin.SmallTypes.ownedTupleIsFree (.ref z) >>= _) _ _ ⟨hp, g, d, tk0, os⟩
  refine bd (zip_owned hz (fun f0 f1 hZ => ?_) fun hh T hT sT => ?_)
  · show wpAny _ _ (rule _ >>= _) _ _ _
    refine bd (wpAny_rule (bd (wpAny_field hZ rfl (x := Value.ref TO) rfl (bd (wpAny_setField_rec hZ (by simp) fun b0 z0 e0 => bd ?_)))))
    have z0' : Zf b0 z TI TO .ellipsis f1 := z0
    have e0' : Heap.SameBut z hp b0 := e0
    simp only [List.zipIdx_nil, List.zipIdx_cons, List.forIn_nil, List.forIn_cons]
    refine bd (bd (wpAny_onRaise ?_))
    show wpAny _ _ (Builtin.SmallTypes.nextOf (Value.ref i1) >>= _) _ _ ⟨b0, g, d, tk0, os⟩
    by_cases c1 : i < n1
    · refine bd (D1.item i _ _ _ c1 (D1.over w1 e0' S.zf1) fun x1 b1 t1 y1 w1a e1 => wpAny_pure ?_)
      have e1' : Heap.SameBut i1 b0 b1 := e1
      have O1 : IsTupOf2 b1 TO u1 u2 := e1'.extBut _ _ S.Ti1 (e0'.extBut _ _ S.TOz hO)
      refine bd (wpAny_seqItems (s := ⟨b1, g, d, t1, os⟩) O1 rfl (bd (updateSeq_IsTupOf2 (s := ⟨b1, g, d, t1, os⟩) O1 fun b2 O2 e2 => bd (wpAny_letGo (wpAny_pure ?_)))))
      have e2' : Heap.SameBut TO b1 b2 := e2
      have c2 : i = n2 := by omega
      refine bd (bd (wpAny_onRaise ?_))
      show wpAny _ _ (Builtin.SmallTypes.nextOf (Value.ref i2) >>= _) _ _ ⟨b2, g, d, t1, os⟩
      have w2b : St2 n2 b2 := by
        have := D2.over (D2.over (D2.over w2 e0' S.zf2) e1' S.sep1_2) e2' S.Tf2
        rwa [c2] at this
      refine bd (D2.done ⟨b2, g, d, t1, os⟩ _ _ w2b fun b3 e k3 ⟨oe, he1, he2⟩ => ?_)
      have k3' : Heap.ExtBut i2 b2 b3 := k3
      have he1' : b3.get? e = some oe := he1
      have z3 : Zf b3 z TI TO .ellipsis f1 := k3' _ _ S.zi2 (e2'.extBut _ _ S.TOz.symm (e1'.extBut _ _ S.zi1 z0'))
      have ne : e ≠ z := fun x => by
        rw [x, z3] at he1'
        cases he1'
        simp at he2
      refine wpAny_setField_rec (s := ⟨b3, g, d, t1, os⟩) z3 (by simp) fun b4 _ k4 => ?_
      have k4' : Heap.SameBut z b3 b4 := k4
      exact hE b4 t1 e (fun c o cz cT q1 q2 x => k4'.extBut _ _ cz (k3' _ _ q2 (e2'.extBut _ _ cT (e1'.extBut _ _ q1 (e0'.extBut _ _ cz x))))) ⟨oe, k4'.extBut _ _ ne he1', he2⟩
    · have c2 : i = n1 := by omega
      have w1b : St1 n1 b0 := by
        have := D1.over w1 e0' S.zf1
        rwa [c2] at this
      refine bd (D1.done ⟨b0, g, d, tk0, os⟩ _ _ w1b fun b3 e k3 ⟨oe, he1, he2⟩ => ?_)
      have k3' : Heap.ExtBut i1 b0 b3 := k3
      have he1' : b3.get? e = some oe := he1
      have z3 : Zf b3 z TI TO .ellipsis f1 := k3' _ _ S.zi1 z0'
      have ne : e ≠ z := fun x => by
        rw [x, z3] at he1'
        cases he1'
        simp at he2
      refine wpAny_setField_rec (s := ⟨b3, g, d, tk0, os⟩) z3 (by simp) fun b4 _ k4 => ?_
      have k4' : Heap.SameBut z b3 b4 := k4
      exact hE b4 tk0 e (fun c o cz cT q1 q2 x => k4'.extBut _ _ cz (k3' _ _ q1 (e0'.extBut _ _ cz x))) ⟨oe, k4'.extBut _ _ ne he1', he2⟩
  · have sT' : Heap.SameBut z hp hh := sT
    show wpAny _ _ _ _ _ ⟨hh, g, d, tk0, os⟩
    simp only [Bool.false_eq_true, if_false]
    refine bd ?_
    rw [← Array.forIn_toList]
    simp only [List.forIn_nil, List.forIn_cons]
    refine bd (bd (wpAny_holding ?_))
    show wpAny _ _ (Builtin.SmallTypes.nextOf (Value.ref i1) >>= _) _ _ ⟨hh, g, d, tk0, os⟩
    by_cases c1 : i < n1
    · refine bd (D1.item i _ _ _ c1 (D1.over w1 sT' S.zf1) fun x1 b1 t1 y1 w1a e1 => wpAny_pure (wpAny_pure ?_))
      have e1' : Heap.SameBut i1 hh b1 := e1
      have c2 : i = n2 := by omega
      refine bd (bd (wpAny_holding ?_))
      show wpAny _ _ (Builtin.SmallTypes.nextOf (Value.ref i2) >>= _) _ _ ⟨b1, g, d, t1, os⟩
      have w2b : St2 n2 b1 := by
        have := D2.over (D2.over w2 sT' S.zf2) e1' S.sep1_2
        rwa [c2] at this
      refine bd (D2.done ⟨b1, g, d, t1, os⟩ _ _ w2b fun b3 e k3 he1 => ?_)
      have k3' : Heap.ExtBut i2 b1 b3 := k3
      exact hE b3 t1 e (fun c o cz cT q1 q2 x => k3' _ _ q2 (e1'.extBut _ _ q1 (sT'.extBut _ _ cz x))) he1
    · have c2 : i = n1 := by omega
      have w1b : St1 n1 hh := by
        have := D1.over w1 sT' S.zf1
        rwa [c2] at this
      refine bd (D1.done ⟨hh, g, d, tk0, os⟩ _ _ w1b fun b3 e k3 he1 => ?_)
      have k3' : Heap.ExtBut i1 hh b3 := k3
      exact hE b3 tk0 e (fun c o cz cT q1 q2 x => k3' _ _ q1 (sT'.extBut _ _ cz x)) he1
end
end Fx

set_option Elab.async false
set_option linter.all false
set_option maxRecDepth 100000
set_option maxHeartbeats 4000000
set_option autoImplicit false
/-! Fx, part N: zip and enumerate as what is walked. -/
namespace Fx
open PySem PySem.Spec PyProof.Rows L2
open Sem (wp)

/-- a list or a tuple, as one side of a walk -/
structure Half (P : Program) (w : World) (K : PySem.W.Frag) (a it : Addr) (S : Hp → List V → Prop) (tn : Nat → Heap → Prop) (o : Obj) (body : Array Value → Heap → Prop) : Prop where
  live : ∀ i h, tn i h → ∃ o, h.get? it = some o ∧ ∀ v, o.data ≠ .cell v
  keep : ∀ i h h', tn i h → (∀ o, h.get? it = some o → h'.get? it = some o) → tn i h'
  inv : ∀ (X : Cx), X.prog = P → X.w = w → X.K = K → ∀ (pins : List (Addr × Obj)) (σ : L2.St) (H : Hp) (s : Shared) (xs : List V), Inv X pins σ H s → S H xs → ∃ its, Vals xs its ∧ body its.toArray s.heap ∧ a < s.heap.objs.size
  inj : ∀ (X : Cx), X.prog = P → X.w = w → X.K = K → ∀ (pins : List (Addr × Obj)) (σ : L2.St) (H : Hp) (s : Shared) (xs ys : List V), Inv X pins σ H s → S H xs → S H ys → xs = ys
  draws : ∀ (A : Around) (items : Array Value), A.handled = none → a ≠ it → Draws P w A it [it, a] items.size (fun i v => items[i]? = some v) (fun i h => tn i h ∧ body items h)
  begins : ∀ items, Begins (.ref a) o (body items)
  first : ∀ h, h.get? it = some o → tn 0 h
variable {P : Program} {w : World} {K : PySem.W.Frag} {a it b jt : Addr}
theorem half_list : Half P w K a it (fun H xs => SqL K H a xs) (fun i h => h.IsListIter it a i) { cls := .type "list_iterator", data := .fields #[.ref a, .int 0 0] } (fun items h => h.IsList a items) where
  live := fun i h ⟨o, e, _, d⟩ => ⟨o, e, fun v q => by rw [d] at q; cases q⟩
  keep := fun i h h' t k => t.at k
  inv := fun X hP hw hK pins σ H s xs I q => by
    subst hP hw hK
    obtain ⟨its, r, p, _⟩ := I.list q
    exact ⟨its, r, p.isList, p.lt⟩
  inj := fun X hP hw hK pins σ H s xs ys I q q' => by
    subst hP hw hK
    exact I.list_inj q q'
  draws := fun A items h n => Draws.list h it a n items
  begins := fun items => begins_list a items
  first := fun h e => ⟨_, e, rfl, rfl⟩
theorem half_tup : Half P w K a it (fun H xs => SqT K H a xs) (fun i h => h.IsTupleIter it a i) { cls := .type "tuple_iterator", data := .fields #[.ref a, .int 0 0] } (fun items h => h.IsTuple a items) where
  live := fun i h ⟨o, e, _, d⟩ => ⟨o, e, fun v q => by rw [d] at q; cases q⟩
  keep := fun i h h' t k => t.at k
  inv := fun X hP hw hK pins σ H s xs I q => by
    subst hP hw hK
    obtain ⟨its, r, p, _⟩ := I.tuple q
    obtain ⟨o, ho, _⟩ := id p
    exact ⟨its, r, p, Heap.lt_size ho⟩
  inj := fun X hP hw hK pins σ H s xs ys I q q' => by
    subst hP hw hK
    exact I.tuple_inj q q'
  draws := fun A items h n => Draws.tuple h it a n items
  begins := fun items => begins_tuple a items
  first := fun h e => ⟨_, e, rfl, rfl⟩

/-- one item of each, in a new pair -/
def ItG (S1 S2 : Hp → List V → Prop) : It :=
  ⟨fun i H => ∃ (xs ys : List V) (x y : V), S1 H xs ∧ S2 H ys ∧ xs[i]? = some x ∧ ys[i]? = some y,
    fun i H v H' => ∃ T x y, v = .ref T ∧ H T = none ∧ H' = upd H T (.tup [x, y]) ∧ (∀ xs, S1 H xs → xs[i]? = some x) ∧ ∀ ys, S2 H ys → ys[i]? = some y,
    fun i H => ∃ xs ys : List V, S1 H xs ∧ S2 H ys ∧ i ≤ xs.length ∧ i ≤ ys.length ∧ (xs.length = i ∨ ys.length = i)⟩

section
variable {z TI TO : Addr} {A : Around} {E : Value → Shared → Prop} {s : Shared}
/-- the step ahead of the store leaves a zip a zip -/
theorem let_zip {tg : Expr} {T : Addr} {Q : Unit → Shared → Prop} (hz : ZOut s.heap z TI TO) (hQ : ∀ h', ZOut h' z TI TO → Heap.SameBut z s.heap h' → Q () { s with heap := h' }) :
    wpAny (model P w) A (letOwnedTupleGo tg (.ref z) (.ref T)) Q E s := by
  have hp : Q () s := hQ s.heap hz (Heap.SameBut.refl _ _)
  obtain ⟨f0, f1, h, hf⟩ := id hz
  have main : ∀ (e : Expr), (letOwnedTupleGo e (.ref z) (.ref T) = do
      let o ← load z
      match o.cls, o.data with
      | .type n, .fields vs =>
        if ["enumerate", "zip", "dict_itemiterator", "dict_reverseitemiterator", "odict_iterator", "itertools.zip_longest", "itertools.pairwise"].contains n && vs[0]? == some (rawInt T) then
          rule "for.unpacks-the-owned-tuple"
          updateField z 0 .none
      | _, _ => pure ()) → wpAny (model P w) A (letOwnedTupleGo e (.ref z) (.ref T)) Q E s := fun e q => by
    rw [q]
    refine bd (wpAny_load h ?_)
    show wpAny _ _ (if _ then _ else _) Q E s
    split
    · refine bd (wpAny_rule ?_)
      show wpAny _ _ (setField (.ref z) 0 Value.none) Q E s
      exact wpAny_setField_rec h (by simp) fun h' z' s' => hQ h' ⟨_, _, z', .inl rfl⟩ s'
    · exact wpAny_pure hp
  cases tg with
  | Tuple _ _ _ => exact main _ rfl
  | List _ _ => exact main _ rfl
  | _ => exact wpAny_pure hp
theorem zip_self {Q : Value → Shared → Prop} (hz : ZOut s.heap z TI TO) (h : Q (.ref z) s) : wpAny (model P w) A (pyIter (.ref z)) Q E s := by
  obtain ⟨f0, f1, e, _⟩ := hz
  have t : s.TypeIs (.ref z) "zip" := ⟨_, e, rfl⟩
  refine wpAny_pyIter_slot t F.slot_zip_iter (wpAny_call_entry F.slot_zip_iter t F.entry_zip_iter ?_ (F.args_zip_iter_1 _))
  show wpAny _ _ (ret (.ref z)) _ _ s
  exact wpAny_pure ⟨_, rfl, "zip", _, t, F.slot_zip_next.lookup, h⟩
end

theorem turn_G {S1 S2 : Hp → List V → Prop} {tn1 tn2 : Nat → Heap → Prop} {o1 o2 : Obj} {B1 B2 : Array Value → Heap → Prop} {tg : Expr} {N : Nat} (G1 : Half P w K a N S1 tn1 o1 B1) (G2 : Half P w K b (N + 1) S2 tn2 o2 B2) (ha : a < N) (hb : b < N) :
    Turn P w K tg (ItG S1 S2) [N + 4, N + 2, N + 3, N, N + 1] (N + 4) (fun i h => ZOut h (N + 4) (N + 2) (N + 3) ∧ (∃ x y, IsTupOf2 h (N + 3) x y) ∧ IsTupOf2 h (N + 2) (.ref N) (.ref (N + 1)) ∧ tn1 i h ∧ tn2 i h) := by
  have S : ZipSep2 (N + 4) (N + 2) (N + 3) N (N + 1) [N, a] [N + 1, b] := zip_sep2 (fp1 := [a]) (fp2 := [b]) (fun c hc => by rw [List.mem_singleton.mp hc]; exact ha) (fun c hc => by rw [List.mem_singleton.mp hc]; exact hb)
  have na : a ≠ N := Nat.ne_of_lt ha
  have nb : b ≠ N + 1 := Nat.ne_of_lt (Nat.lt_succ_of_lt hb)
  have cases5 : ∀ {c : Addr}, c ∈ [N + 4, N + 2, N + 3, N, N + 1] → c = N + 4 ∨ c = N + 2 ∨ c = N + 3 ∨ c = N ∨ c = N + 1 := fun {c} h => by simpa using h
  have off : ∀ {c : Addr}, c ∉ [N + 4, N + 2, N + 3, N, N + 1] → c ≠ N + 4 ∧ c ≠ N + 3 ∧ c ≠ N ∧ c ≠ N + 1 := fun {c} h => ⟨fun e => h (by simp [e]), fun e => h (by simp [e]), fun e => h (by simp [e]), fun e => h (by simp [e])⟩
  exact {
    mem := by simp
    obj := fun i h st c hc => by
      obtain ⟨⟨f0, f1, hz, _⟩, ⟨x, y, hO⟩, hI, t1, t2⟩ := st
      rcases cases5 hc with q | q | q | q | q
      · rw [q]; exact ⟨_, hz, fun v q => nomatch q⟩
      · rw [q]; exact ⟨_, hI, fun v q => nomatch q⟩
      · rw [q]; exact ⟨_, hO, fun v q => nomatch q⟩
      · rw [q]; exact G1.live i h t1
      · rw [q]; exact G2.live i h t2
    keep := fun i h h' st k => by
      obtain ⟨⟨f0, f1, hz, f⟩, ⟨x, y, hO⟩, hI, t1, t2⟩ := st
      exact ⟨⟨f0, f1, k _ (by simp) _ hz, f⟩, ⟨x, y, k _ (by simp) _ hO⟩, k _ (by simp) _ hI, G1.keep _ _ _ t1 fun o e => k _ (by simp) _ e, G2.keep _ _ _ t2 fun o e => k _ (by simp) _ e⟩
    item := by
      intro X hP hw hK hc i pins s σ H E I hf st hg
      obtain ⟨hz, hO, hI, t1, t2⟩ := st
      obtain ⟨xs, ys, x, y, qx, qy, ex, ey⟩ := hg
      obtain ⟨its, rv, p1, _⟩ := G1.inv X hP hw hK pins σ H s xs I qx
      obtain ⟨its2, rv2, p2, _⟩ := G2.inv X hP hw hK pins σ H s ys I qy
      obtain ⟨u, hu, ru⟩ := rv.get ex
      obtain ⟨u2, hu2, ru2⟩ := rv2.get ey
      have hA : X.A.in1.handled = none := I.ok.hd hc
      have D1 := G1.draws X.A.in1 its.toArray hA na
      have D2 := G2.draws X.A.in1 its2.toArray hA nb
      have e1 : its.toArray[i]? = some u := by simpa using hu
      have e2 : its2.toArray[i]? = some u2 := by simpa using hu2
      have l1 : i < its.toArray.size := (Array.getElem?_eq_some_iff.mp e1).1
      have l2 : i < its2.toArray.size := (Array.getElem?_eq_some_iff.mp e2).1
      obtain ⟨f0, f1, hZ, _⟩ := id hz
      have hT : s.TypeIs (.ref (N + 4)) "zip" := ⟨_, hZ, rfl⟩
      have zl : N + 4 < s.heap.objs.size := Heap.lt_size hZ
      subst hP hw hK
      unfold pyNext
      refine bd (wpAny_attempt (wpAny_callSpecial?_slot (name := Str.ofString "__next__") hT F.slot_zip_next (wpAny_call_entry F.slot_zip_next hT F.entry_zip_next
        (zip_goes S D1 D2 hI ⟨hz, hO, ⟨t1, p1⟩, ⟨t2, p2⟩⟩ l1 l2 fun x1 x2 h' tk y1 y2 all new sz left => wpAny_pure ?_) (F.args_zip_next_1 _))))
      have ex1 : x1 = u := by rw [e1] at y1; exact (Option.some.inj y1).symm
      have ex2 : x2 = u2 := by rw [e2] at y2; exact (Option.some.inj y2).symm
      subst ex1 ex2
      obtain ⟨hz', hO', ⟨t1', _⟩, ⟨t2', _⟩⟩ := all
      refine ⟨_, rfl, let_zip (s := { s with heap := h', toks := tk }) hz' fun h2 hz2 sb => ?_⟩
      have sb' : Heap.SameBut (N + 4) h' h2 := sb
      have new2 : h2.get? s.heap.objs.size = some { cls := .type "tuple", data := .seq #[x1, x2] } := sb'.extBut _ _ (Nat.ne_of_gt zl) new
      have ob : ObjOk X.prog X.w (upd H s.heap.objs.size (.tup [x, y])) h2 s.heap.objs.size (.tup [x, y]) :=
        ⟨by show 2 ≤ sizeLine; decide, [x1, x2], .cons ru (.cons ru2 .nil), ⟨_, new2, rfl, _, rfl⟩⟩
      have I1 : Inv X pins σ (upd H s.heap.objs.size (.tup [x, y])) { s with heap := h2, toks := tk } :=
        I.turnedNew (t' := tk) (ch := [N + 4, N + 2, N + 3, N, N + 1]) (fun c o hcn q => sb'.extBut c o (off hcn).1 (left c o (off hcn).1 (off hcn).2.1 (off hcn).2.2.1 (off hcn).2.2.2 q)) hf (Nat.le_refl _) ob
      refine ⟨.ref s.heap.objs.size, _, I1, rfl, ⟨_, x, y, rfl, I.hok.fresh (Nat.le_refl _), rfl, fun l hl => by rw [G1.inj X rfl rfl rfl pins σ H s l xs I hl qx]; exact ex, fun l hl => by rw [G2.inj X rfl rfl rfl pins σ H s l ys I hl qy]; exact ey⟩, ?_, fun c hcm => ?_⟩
      · obtain ⟨p, q, hO'⟩ := hO'
        exact ⟨hz2, ⟨p, q, sb'.extBut _ _ S.TOz hO'⟩, sb'.extBut _ _ S.TIz (left _ _ S.TIz S.TITO S.TIi1 S.TIi2 hI), G1.keep _ _ _ t1' fun o e => sb'.extBut _ o (fun q => S.zi1 q.symm) e, G2.keep _ _ _ t2' fun o e => sb'.extBut _ o (fun q => S.zi2 q.symm) e⟩
      · have lt : c < s.heap.objs.size := by
          obtain ⟨p, q, hO⟩ := hO
          rcases cases5 hcm with q | q | q | q | q
          · rw [q]; exact zl
          · rw [q]; exact Heap.lt_size hI
          · rw [q]; exact Heap.lt_size hO
          · rw [q]; obtain ⟨_, e, _⟩ := G1.live _ _ t1; exact Heap.lt_size e
          · rw [q]; obtain ⟨_, e, _⟩ := G2.live _ _ t2; exact Heap.lt_size e
        rw [upd_ne (Nat.ne_of_lt lt)]
        exact (hf c hcm).1
    done := by
      intro X hP hw hK hc i pins s σ H E I hf st hg
      obtain ⟨hz, hO, hI, t1, t2⟩ := st
      obtain ⟨xs, ys, qx, qy, k1, k2, k3⟩ := hg
      obtain ⟨its, rv, p1, _⟩ := G1.inv X hP hw hK pins σ H s xs I qx
      obtain ⟨its2, rv2, p2, _⟩ := G2.inv X hP hw hK pins σ H s ys I qy
      have r1 := rv.length
      have r2 := rv2.length
      have hA : X.A.in1.handled = none := I.ok.hd hc
      have D1 := G1.draws X.A.in1 its.toArray hA na
      have D2 := G2.draws X.A.in1 its2.toArray hA nb
      obtain ⟨f0, f1, hZ, _⟩ := id hz
      have hT : s.TypeIs (.ref (N + 4)) "zip" := ⟨_, hZ, rfl⟩
      subst hP hw hK
      unfold pyNext
      refine bd (wpAny_attempt (wpAny_callSpecial?_slot (name := Str.ofString "__next__") hT F.slot_zip_next (wpAny_call_entry F.slot_zip_next hT F.entry_zip_next
        (zip_ends S D1 D2 hI ⟨hz, hO, ⟨t1, p1⟩, ⟨t2, p2⟩⟩ (by simp; omega) (by simp; omega) (by simp; omega) fun h' tk e left ⟨oe, he1, he2⟩ => ?_) (F.args_zip_next_1 _))))
      refine bd (wpAny_isInstance (T := "StopIteration") (b := true) ⟨oe, he1, he2⟩ isSubtype_stop (wpAny_pure ⟨rfl, ?_⟩))
      exact I.turnedL (t' := tk) (ch := [N + 4, N + 2, N + 3, N, N + 1]) (fun c o hcn q => left c o (off hcn).1 (off hcn).2.1 (off hcn).2.2.1 (off hcn).2.2.2 q) hf
    self := fun A i s Q E st h => zip_self st.1 h }

def Sd (K : PySem.W.Frag) (a : Addr) (S : Hp → List V → Prop) : Prop := S = (fun H xs => SqL K H a xs) ∨ S = (fun H xs => SqT K H a xs)
theorem Sd.half {S : Hp → List V → Prop} (h : Sd K a S) (P : Program) (w : World) (it : Addr) : ∃ tn o body, Half P w K a it S tn o body := by
  rcases h with h | h
  · subst h; exact ⟨_, _, _, half_list⟩
  · subst h; exact ⟨_, _, _, half_tup⟩
def iZipG (K : PySem.W.Frag) (ta : TA) : TI := fun σ H R => ta σ H fun vs H1 => ∃ a b S1 S2, vs = [.ref a, .ref b] ∧ Sd K a S1 ∧ Sd K b S2 ∧ (∃ xs, S1 H1 xs) ∧ (∃ ys, S2 H1 ys) ∧ R (ItG S1 S2) H1
theorem pi_zipG {X : Cx} {tg e e2 : Expr} {ta : TA} {p pos : Pos} (hg : Gl X "zip") (hm : X.mg "zip" = none) (ha : PA X [e, e2] ta)
    (hs : starEach [e, e2] X.env = (false, eval e X.env) :: starEach [e2] X.env := by rfl) (hpl : (backTo pos (starEach [e2] X.env)).any (·.1) = false := by rfl) :
    PI X tg (.Call (.Name "zip" p) [e, e2] [] pos) (iZipG X.K ta) := by
  refine ⟨fun pins s σ H R I h => Call_ (ld_blt I hg hm PyProof.Rows.boot_zip (PyProof.Rows.callWith_type1 (thn (ha.run pos pins s σ H _ I h) fun us s1 ⟨vs, H1, I1, r1, q1⟩ => ?_) hs hpl))⟩
  obtain ⟨a, b, S1, S2, ex, d1, d2, ⟨xs, qx⟩, ⟨ys, qy⟩, q⟩ := q1
  subst ex
  cases r1 with
  | cons r rr =>
    cases rr with
    | cons r' rr =>
      cases rr
      cases r
      cases r'
      obtain ⟨tn1, o1, B1, G1⟩ := d1.half X.prog X.w s1.heap.objs.size
      obtain ⟨tn2, o2, B2, G2⟩ := d2.half X.prog X.w (s1.heap.objs.size + 1)
      obtain ⟨its, rv, p1, la⟩ := G1.inv X rfl rfl rfl pins σ H1 s1 xs I1 qx
      obtain ⟨its2, rv2, p2, lb⟩ := G2.inv X rfl rfl rfl pins σ H1 s1 ys I1 qy
      refine zip_begins2 (G1.begins its.toArray) (G2.begins its2.toArray) p1 p2 fun h' hz hI hO g1 g2 sz hk => ?_
      have hz' : ZOut h' (s1.heap.objs.size + 4) (s1.heap.objs.size + 2) (s1.heap.objs.size + 3) := ⟨_, _, hz, .inl rfl⟩
      refine zip_self (s := { s1 with heap := h' }) hz' ?_
      have I2 : Inv X pins σ H1 { s1 with heap := h' } := I1.kept (t' := s1.toks) hk
      refine ⟨s1.heap.objs.size + 4, _, _, _, H1, rfl, I2, turn_G G1 G2 la lb, ⟨hz', ⟨_, _, hO⟩, hI, G1.first _ g1, G2.first _ g2⟩, fun c hcm => ?_, q⟩
      have hle : s1.heap.objs.size ≤ c := by
        have e' : c = s1.heap.objs.size + 4 ∨ c = s1.heap.objs.size + 2 ∨ c = s1.heap.objs.size + 3 ∨ c = s1.heap.objs.size ∨ c = s1.heap.objs.size + 1 := by simpa using hcm
        rcases e' with q | q | q | q | q
        · rw [q]; exact Nat.le_add_right _ 4
        · rw [q]; exact Nat.le_add_right _ 2
        · rw [q]; exact Nat.le_add_right _ 3
        · rw [q]; exact Nat.le_refl _
        · rw [q]; exact Nat.le_add_right _ 1
      exact I1.fpOk hle (I1.hok.fresh hle)

/-! ### enumerate -/
def ItE (S : Hp → List V → Prop) : It :=
  ⟨fun i H => ∃ (xs : List V) (x : V), S H xs ∧ xs[i]? = some x, fun i H v H' => ∃ T x, v = .ref T ∧ H T = none ∧ H' = upd H T (.tup [.int (i : Nat), x]) ∧ ∀ xs, S H xs → xs[i]? = some x, fun i H => ∃ xs : List V, S H xs ∧ xs.length = i⟩
theorem turn_E {S : Hp → List V → Prop} {tn : Nat → Heap → Prop} {o : Obj} {B : Array Value → Heap → Prop} {elts : List Expr} {kk : Nat} {tpos : Pos} {N : Nat} (G : Half P w K a N S tn o B) (ha : a < N) :
    Turn P w K (.Tuple elts kk tpos) (ItE S) [N + 1, N] (N + 1) (fun i h => (∃ old, IsEnum h (N + 1) N ((i : Nat) : Int) old) ∧ tn i h) where
  mem := by simp
  obj := fun i h st b hb => by
    obtain ⟨⟨old, he⟩, t⟩ := st
    have e' : b = N + 1 ∨ b = N := by simpa using hb
    rcases e' with q | q
    · rw [q]; exact ⟨_, he, fun v q => nomatch q⟩
    · rw [q]; exact G.live _ _ t
  keep := fun i h h' ⟨⟨old, he⟩, t⟩ k => ⟨⟨old, k _ (by simp) _ he⟩, G.keep _ _ _ t fun o e => k _ (by simp) _ e⟩
  item := by
    intro X hP hw hK hc i pins s σ H E I hf st hg
    obtain ⟨⟨old, he⟩, t⟩ := st
    obtain ⟨xs, x, q, ex⟩ := hg
    obtain ⟨its, rv, p, _⟩ := G.inv X hP hw hK pins σ H s xs I q
    obtain ⟨u, hu, ru⟩ := rv.get ex
    have hA : X.A.in1.handled = none := I.ok.hd hc
    have nei : N + 1 ≠ N := Nat.succ_ne_self N
    have nea : N + 1 ≠ a := Nat.ne_of_gt (Nat.lt_succ_of_lt ha)
    have D1 := G.draws X.A.in1 its.toArray hA (Nat.ne_of_lt ha)
    have e1 : its.toArray[i]? = some u := by simpa using hu
    have l1 : i < its.toArray.size := (Array.getElem?_eq_some_iff.mp e1).1
    have el : N + 1 < s.heap.objs.size := Heap.lt_size he
    subst hP hw hK
    refine wpAny_pyNext_enum_itemD D1 he ⟨t, p⟩ l1 nei (by simp [nea]) fun y h' tk hy ho st' hT sz left => ⟨_, rfl, wpAny_letOwnedTupleGo_enum (s := { s with heap := h', toks := tk + 1 }) ho fun h2 he2 sb => ?_⟩
    have ey : y = u := by rw [e1] at hy; exact (Option.some.inj hy).symm
    subst ey
    have sb' : Heap.SameBut (N + 1) h' h2 := sb
    have new2 : h2.get? s.heap.objs.size = some { cls := .type "tuple", data := .seq #[.int i tk, y] } := sb'.extBut _ _ (Nat.ne_of_gt el) hT
    have ob : ObjOk X.prog X.w (upd H s.heap.objs.size (.tup [.int (i : Nat), x])) h2 s.heap.objs.size (.tup [.int (i : Nat), x]) :=
      ⟨by show 2 ≤ sizeLine; decide, [.int i tk, y], .cons ⟨_, rfl⟩ (.cons ru .nil), ⟨_, new2, rfl, _, rfl⟩⟩
    have I1 : Inv X pins σ (upd H s.heap.objs.size (.tup [.int (i : Nat), x])) { s with heap := h2, toks := tk + 1 } :=
      I.turnedNew (t' := tk + 1) (ch := [N + 1, N]) (fun b o hb q => sb'.extBut b o (fun z => hb (by simp [z])) (left b o (fun z => hb (by simp [z])) (fun z => hb (by simp [z])) q)) hf (Nat.le_refl _) ob
    refine ⟨.ref s.heap.objs.size, _, I1, rfl, ⟨_, x, rfl, I.hok.fresh (Nat.le_refl _), rfl, fun l hl => by rw [G.inj X rfl rfl rfl pins σ H s l xs I hl q]; exact ex⟩, ⟨⟨y, ?_⟩, G.keep _ _ _ st'.1 fun o e => sb'.extBut _ o nei.symm e⟩, fun b hb => ?_⟩
    · have e1 : ((i + 1 : Nat) : Int) = (i : Int) + 1 := by omega
      rw [e1]; exact he2
    · have lt : b < s.heap.objs.size := by
        have e' : b = N + 1 ∨ b = N := by simpa using hb
        rcases e' with q | q
        · rw [q]; exact el
        · rw [q]; exact Nat.lt_of_succ_lt el
      rw [upd_ne (Nat.ne_of_lt lt)]
      exact (hf b hb).1
  done := by
    intro X hP hw hK hc i pins s σ H E I hf st hg
    obtain ⟨⟨old, he⟩, t⟩ := st
    obtain ⟨xs, q, hl⟩ := hg
    obtain ⟨its, rv, p, _⟩ := G.inv X hP hw hK pins σ H s xs I q
    have r := rv.length
    have D1 := G.draws X.A.in1 its.toArray (I.ok.hd hc) (Nat.ne_of_lt ha)
    have hi : its.toArray.size = i := by simp; omega
    subst hP hw hK
    exact wpAny_pyNext_enum_endD D1 he (by rw [hi]; exact ⟨t, p⟩) fun h' hx => ⟨rfl, I.turnedL (t' := s.toks) (ch := [N + 1, N]) (fun b o hb q => hx b o (fun z => hb (by simp [z])) q) hf⟩
  self := fun A i s Q E st h => let ⟨⟨_, he⟩, _⟩ := st; wpAny_pyIter_enum he h

theorem enum_new {v : Value} {o : Obj} {B : Heap → Prop} (b : Begins v o B) :
    Meets (Builtin.«enumerate.__new__» ⟨[.type "enumerate", v], []⟩) (fun _ R s => B s.heap ∧
      R (.ok (.ret (.ref (s.heap.push o).objs.size))) { s with heap := (s.heap.push o).push { cls := .type "enumerate", data := .fields #[.none, .bool false, .ref s.heap.objs.size, rawInt 0, .none, .none] } }) :=
  .of_wp fun prog w A R s ⟨h1, h⟩ => by
    obtain ⟨hp, g, d, tk, os⟩ := s
    have q0 := sub_enumerate
    have go : ∀ {A' : Around} {E Q : Value → Shared → Prop}, Q (.ref hp.objs.size) ⟨hp.push o, g, d, tk, os⟩ → wpAny (model prog w) A' (pyIter v) Q E ⟨hp, g, d, tk, os⟩ :=
      fun k => b.iter prog w _ _ ⟨hp, g, d, tk, os⟩ _ h1 k
    wp_walk using go
    refine wpAny_stack_any fun st => wpAny_pure ?_
    split
    · rename_i c _ _ _ _ _
      cases c == Value.type "enumerate" <;> (wp_walk using go; exact ⟨_, rfl, h⟩)
    · wp_walk using go; exact ⟨_, rfl, h⟩
theorem enum_begins1 {A : Around} {E : Value → Shared → Prop} {s : Shared} {v : Value} {o : Obj} {B : Heap → Prop} {Q : Value → Shared → Prop} (b : Begins v o B) (h1 : B s.heap)
    (h : ∀ h', IsEnum h' (s.heap.objs.size + 1) s.heap.objs.size 0 .none → h'.get? s.heap.objs.size = some o → (∀ b o, s.heap.get? b = some o → h'.get? b = some o) → Q (.ref (s.heap.objs.size + 1)) { s with heap := h' }) :
    wpAny (model P w) A (call (.type "enumerate") [v]) Q E s := by
  refine callType_new F.called_enumerate (by decide) (F.typeCall_enumerate_1 _) (F.newCall_enumerate_1 _) (fun obj => F.args_object_init_2 obj _) F.entry_enumerate_new (enum_new b) ⟨h1, ?_⟩
  have z1 : (s.heap.push o).objs.size = s.heap.objs.size + 1 := Heap.size_push ..
  have e2 : IsEnum ((s.heap.push o).push { cls := .type "enumerate", data := .fields #[.none, .bool false, .ref s.heap.objs.size, rawInt 0, .none, .none] }) (s.heap.push o).objs.size s.heap.objs.size 0 .none := Heap.get?_push_size _ rfl
  rw [z1] at e2
  show _ ∧ _
  rw [z1]
  exact ⟨⟨_, e2, rfl⟩, h _ e2 (Heap.get?_push_of_some _ (Heap.get?_push_size _ b.free)) fun c o x => Heap.get?_push_of_some _ (Heap.get?_push_of_some _ x)⟩

def iEnumG (K : PySem.W.Frag) (ta : TA) : TI := fun σ H R => ta σ H fun vs H1 => ∃ a S, vs = [.ref a] ∧ Sd K a S ∧ (∃ xs, S H1 xs) ∧ R (ItE S) H1
theorem pi_enumG {X : Cx} {e : Expr} {ta : TA} {p pos tpos : Pos} {elts : List Expr} {kk : Nat} (hg : Gl X "enumerate") (hm : X.mg "enumerate" = none) (ha : PA X [e] ta) (hs : starEach [e] X.env = [(false, eval e X.env)] := by rfl) :
    PI X (.Tuple elts kk tpos) (.Call (.Name "enumerate" p) [e] [] pos) (iEnumG X.K ta) := by
  refine ⟨fun pins s σ H R I h => Call_ (ld_blt I hg hm boot_enumerate (PyProof.Rows.callWith_type1 (thn (ha.run pos pins s σ H _ I h) fun us s1 ⟨vs, H1, I1, r1, q1⟩ => ?_) hs rfl))⟩
  obtain ⟨a, S, ex, d1, ⟨xs, qx⟩, q⟩ := q1
  subst ex
  cases r1 with
  | cons r rr =>
    cases rr
    cases r
    obtain ⟨tn, o, B, G⟩ := d1.half X.prog X.w s1.heap.objs.size
    obtain ⟨its, rv, p1, la⟩ := G.inv X rfl rfl rfl pins σ H1 s1 xs I1 qx
    refine enum_begins1 (G.begins its.toArray) p1 fun h' he g1 hk => wpAny_pyIter_enum he ?_
    have I2 : Inv X pins σ H1 { s1 with heap := h' } := I1.kept (t' := s1.toks) hk
    refine ⟨s1.heap.objs.size + 1, _, _, _, H1, rfl, I2, turn_E G la, ⟨⟨.none, he⟩, G.first _ g1⟩, fun b hb => ?_, q⟩
    have hle : s1.heap.objs.size ≤ b := by
      have e' : b = s1.heap.objs.size + 1 ∨ b = s1.heap.objs.size := by simpa using hb
      rcases e' with q | q
      · rw [q]; exact Nat.le_add_right _ _
      · rw [q]; exact Nat.le_refl _
    exact I1.fpOk hle (I1.hok.fresh hle)
end Fx

set_option Elab.async false
set_option linter.all false
set_option maxRecDepth 100000
set_option maxHeartbeats 4000000
set_option autoImplicit false
/-! Fx, part O: list(zip(a, b)). -/
namespace Fx
open PySem PySem.Spec PyProof.Rows L2
open Sem (wp)

theorem zip_no_len : typeLookup (.type "zip") "__len__" = pure none := am_miss_of_fast (by decide +kernel)
theorem zip_no_hint : typeLookup (.type "zip") "__length_hint__" = pure none := am_miss_of_fast (by decide +kernel)
/-- where a zip over what stands at a and b is -/
def Zat (N : Nat) (tn1 tn2 : Nat → Heap → Prop) (i : Nat) (h : Heap) : Prop := ZOut h (N + 4) (N + 2) (N + 3) ∧ (∃ x y, IsTupOf2 h (N + 3) x y) ∧ IsTupOf2 h (N + 2) (.ref N) (.ref (N + 1)) ∧ tn1 i h ∧ tn2 i h
abbrev zc (N : Nat) : List Addr := [N + 4, N + 2, N + 3, N, N + 1]
section
variable {X : Cx} {B : Around} {pins : List (Addr × Obj)} {σ : L2.St} {H : Hp} {s : Shared} {a b : Addr} {N i : Nat} {S1 S2 : Hp → List V → Prop} {tn1 tn2 : Nat → Heap → Prop} {o1 o2 : Obj} {B1 B2 : Array Value → Heap → Prop} {xs ys : List V} {E : Value → Shared → Prop}
theorem sep_of (ha : a < N) (hb : b < N) : ZipSep2 (N + 4) (N + 2) (N + 3) N (N + 1) [N, a] [N + 1, b] := zip_sep2 (fp1 := [a]) (fp2 := [b]) (fun c hc => by rw [List.mem_singleton.mp hc]; exact ha) (fun c hc => by rw [List.mem_singleton.mp hc]; exact hb)
theorem zc_off {c : Addr} (h : c ∉ zc N) : c ≠ N + 4 ∧ c ≠ N + 3 ∧ c ≠ N ∧ c ≠ N + 1 := ⟨fun e => h (by simp [zc, e]), fun e => h (by simp [zc, e]), fun e => h (by simp [zc, e]), fun e => h (by simp [zc, e])⟩
theorem zc_cases {c : Addr} (h : c ∈ zc N) : c = N + 4 ∨ c = N + 2 ∨ c = N + 3 ∨ c = N ∨ c = N + 1 := by simpa using h
theorem zat_lt (G1 : Half X.prog X.w X.K a N S1 tn1 o1 B1) (G2 : Half X.prog X.w X.K b (N + 1) S2 tn2 o2 B2) {h : Heap} (st : Zat N tn1 tn2 i h) : ∀ c ∈ zc N, c < h.objs.size := fun c hc => by
  obtain ⟨⟨f0, f1, hZ, _⟩, ⟨p, q, hO⟩, hI, t1, t2⟩ := st
  rcases zc_cases hc with q | q | q | q | q
  · rw [q]; exact Heap.lt_size hZ
  · rw [q]; exact Heap.lt_size hI
  · rw [q]; exact Heap.lt_size hO
  · rw [q]; obtain ⟨_, e, _⟩ := G1.live _ _ t1; exact Heap.lt_size e
  · rw [q]; obtain ⟨_, e, _⟩ := G2.live _ _ t2; exact Heap.lt_size e
theorem zat_keep (G1 : Half X.prog X.w X.K a N S1 tn1 o1 B1) (G2 : Half X.prog X.w X.K b (N + 1) S2 tn2 o2 B2) {h h' : Heap} (st : Zat N tn1 tn2 i h) (k : ∀ c ∈ zc N, ∀ o, h.get? c = some o → h'.get? c = some o) : Zat N tn1 tn2 i h' := by
  obtain ⟨⟨f0, f1, hz, f⟩, ⟨x, y, hO⟩, hI, t1, t2⟩ := st
  exact ⟨⟨f0, f1, k _ (by simp) _ hz, f⟩, ⟨x, y, k _ (by simp) _ hO⟩, k _ (by simp) _ hI, G1.keep _ _ _ t1 fun o e => k _ (by simp) _ e, G2.keep _ _ _ t2 fun o e => k _ (by simp) _ e⟩
theorem zip_step (hB : B.in1.handled = none) (G1 : Half X.prog X.w X.K a N S1 tn1 o1 B1) (G2 : Half X.prog X.w X.K b (N + 1) S2 tn2 o2 B2) (ha : a < N) (hb : b < N) (I : Inv X pins σ H s) (hf : ∀ c ∈ zc N, FpOk X pins H c)
    (st : Zat N tn1 tn2 i s.heap) {x y : V} (qx : S1 H xs) (qy : S2 H ys) (ex : xs[i]? = some x) (ey : ys[i]? = some y) {Q : Option Value → Shared → Prop}
    (k : ∀ (T : Addr) (s1 : Shared), H T = none → T = s.heap.objs.size → Inv X pins σ (upd H T (.tup [x, y])) s1 → Zat N tn1 tn2 (i + 1) s1.heap → (∀ c ∈ zc N, FpOk X pins (upd H T (.tup [x, y])) c) → (∀ c o, c ∉ zc N → s.heap.get? c = some o → s1.heap.get? c = some o) → Q (some (.ref T)) s1) :
    wpAny (model X.prog X.w) B (pyNext (.ref (N + 4))) Q E s := by
  have lts := zat_lt G1 G2 st
  obtain ⟨hz, hO, hI, t1, t2⟩ := st
  obtain ⟨its, rv, p1, _⟩ := G1.inv X rfl rfl rfl pins σ H s xs I qx
  obtain ⟨its2, rv2, p2, _⟩ := G2.inv X rfl rfl rfl pins σ H s ys I qy
  obtain ⟨u, hu, ru⟩ := rv.get ex
  obtain ⟨u2, hu2, ru2⟩ := rv2.get ey
  have e1 : its.toArray[i]? = some u := by simpa using hu
  have e2 : its2.toArray[i]? = some u2 := by simpa using hu2
  obtain ⟨f0, f1, hZ, _⟩ := id hz
  have hT : s.TypeIs (.ref (N + 4)) "zip" := ⟨_, hZ, rfl⟩
  have S := sep_of (N := N) ha hb
  unfold pyNext
  refine bd (wpAny_attempt (wpAny_callSpecial?_slot (name := Str.ofString "__next__") hT F.slot_zip_next (wpAny_call_entry F.slot_zip_next hT F.entry_zip_next
    (zip_goes S (G1.draws _ its.toArray hB (Nat.ne_of_lt ha)) (G2.draws _ its2.toArray hB (Nat.ne_of_lt (Nat.lt_succ_of_lt hb))) hI ⟨hz, hO, ⟨t1, p1⟩, ⟨t2, p2⟩⟩ (Array.getElem?_eq_some_iff.mp e1).1 (Array.getElem?_eq_some_iff.mp e2).1 fun x1 x2 h' tk y1 y2 all new sz left => wpAny_pure ?_) (F.args_zip_next_1 _))))
  have ex1 : x1 = u := by rw [e1] at y1; exact (Option.some.inj y1).symm
  have ex2 : x2 = u2 := by rw [e2] at y2; exact (Option.some.inj y2).symm
  subst ex1 ex2
  obtain ⟨hz', hO', ⟨t1', _⟩, ⟨t2', _⟩⟩ := all
  have ob : ObjOk X.prog X.w (upd H s.heap.objs.size (.tup [x, y])) h' s.heap.objs.size (.tup [x, y]) :=
    ⟨by show 2 ≤ sizeLine; decide, [x1, x2], .cons ru (.cons ru2 .nil), ⟨_, new, rfl, _, rfl⟩⟩
  have I1 : Inv X pins σ (upd H s.heap.objs.size (.tup [x, y])) { s with heap := h', toks := tk } :=
    I.turnedNew (t' := tk) (ch := zc N) (fun c o hcn q => left c o (zc_off hcn).1 (zc_off hcn).2.1 (zc_off hcn).2.2.1 (zc_off hcn).2.2.2 q) hf (Nat.le_refl _) ob
  refine k _ _ (I.hok.fresh (Nat.le_refl _)) rfl I1 ⟨hz', hO', left _ _ S.TIz S.TITO S.TIi1 S.TIi2 hI, t1', t2'⟩ (fun c hc => ?_) fun c o hcn q => left c o (zc_off hcn).1 (zc_off hcn).2.1 (zc_off hcn).2.2.1 (zc_off hcn).2.2.2 q
  obtain ⟨r0, r⟩ := hf c hc
  exact ⟨by rw [upd_ne (Nat.ne_of_lt (lts c hc))]; exact r0, r⟩
theorem zip_stop (hB : B.in1.handled = none) (G1 : Half X.prog X.w X.K a N S1 tn1 o1 B1) (G2 : Half X.prog X.w X.K b (N + 1) S2 tn2 o2 B2) (ha : a < N) (hb : b < N) (I : Inv X pins σ H s) (hf : ∀ c ∈ zc N, FpOk X pins H c)
    (st : Zat N tn1 tn2 i s.heap) (qx : S1 H xs) (qy : S2 H ys) (l1 : i ≤ xs.length) (l2 : i ≤ ys.length) (l3 : xs.length = i ∨ ys.length = i) {Q : Option Value → Shared → Prop}
    (k : ∀ (s1 : Shared), Inv X pins σ H s1 → Q none s1) :
    wpAny (model X.prog X.w) B (pyNext (.ref (N + 4))) Q E s := by
  obtain ⟨hz, hO, hI, t1, t2⟩ := st
  obtain ⟨its, rv, p1, _⟩ := G1.inv X rfl rfl rfl pins σ H s xs I qx
  obtain ⟨its2, rv2, p2, _⟩ := G2.inv X rfl rfl rfl pins σ H s ys I qy
  have r1 := rv.length
  have r2 := rv2.length
  obtain ⟨f0, f1, hZ, _⟩ := id hz
  have hT : s.TypeIs (.ref (N + 4)) "zip" := ⟨_, hZ, rfl⟩
  unfold pyNext
  refine bd (wpAny_attempt (wpAny_callSpecial?_slot (name := Str.ofString "__next__") hT F.slot_zip_next (wpAny_call_entry F.slot_zip_next hT F.entry_zip_next
    (zip_ends (sep_of (N := N) ha hb) (G1.draws _ its.toArray hB (Nat.ne_of_lt ha)) (G2.draws _ its2.toArray hB (Nat.ne_of_lt (Nat.lt_succ_of_lt hb))) hI ⟨hz, hO, ⟨t1, p1⟩, ⟨t2, p2⟩⟩ (by simp; omega) (by simp; omega) (by simp; omega) fun h' tk e left ⟨oe, he1, he2⟩ => ?_) (F.args_zip_next_1 _))))
  refine bd (wpAny_isInstance (T := "StopIteration") (b := true) ⟨oe, he1, he2⟩ isSubtype_stop (wpAny_pure (k _ ?_)))
  exact I.turnedL (t' := tk) (ch := zc N) (fun c o hcn q => left c o (zc_off hcn).1 (zc_off hcn).2.1 (zc_off hcn).2.2.1 (zc_off hcn).2.2.2 q) hf

/-- the list S takes what the zip has left; G tells what stands behind i items -/
theorem zip_loop {A : Around} {R : Result → Shared → Prop} {S : Addr} {res : Value} (hA : A.in1.in1.handled = none) (G1 : Half X.prog X.w X.K a N S1 tn1 o1 B1) (G2 : Half X.prog X.w X.K b (N + 1) S2 tn2 o2 B2) (ha : a < N) (hb : b < N) (G : Nat → Hp → List V → Prop)
    (hG : ∀ i H vs, G i H vs → S1 H xs ∧ S2 H ys ∧ H S = some (.lst vs) ∧ vs.length < 1000000) (n : Nat) (hn : n = min xs.length ys.length)
    (go : ∀ i H vs T x y, G i H vs → H T = none → xs[i]? = some x → ys[i]? = some y → G (i + 1) (upd (upd H T (.tup [x, y])) S (.lst (vs ++ [.ref T]))) (vs ++ [.ref T]))
    (fin : ∀ H vs s', G n H vs → Inv X pins σ H s' → R (.ok (.ret res)) s') :
    ∀ (k i : Nat) (H : Hp) (vs : List V) (s : Shared), n - i = k → i ≤ n → Inv X pins σ H s → (∀ c ∈ zc N, FpOk X pins H c) → Zat N tn1 tn2 i s.heap → G i H vs →
      codeAny (model X.prog X.w) A (.builtin "list.extend.loop" ⟨[.ref S, .ref (N + 4), res], []⟩) R s := by
  intro k
  induction k with
  | zero =>
    intro i H vs s hk hi I hf st g
    have e : i = n := by omega
    subst e
    obtain ⟨qx, qy, _, _⟩ := hG _ _ _ g
    refine codeAny_builtin F.entry_extend_loop ?_
    rw [Around.under_plainId F.plain_extend_loop _]
    show wpAny _ A.in1 (pyNext (.ref (N + 4)) >>= _) _ _ s
    exact bd (zip_stop hA G1 G2 ha hb I hf st qx qy (by omega) (by omega) (by omega) fun s1 I1 => wpAny_pure (fin H vs s1 g I1))
  | succ k ih =>
    intro i H vs s hk hi I hf st g
    obtain ⟨qx, qy, hS, hl⟩ := hG _ _ _ g
    have l1 : i < xs.length := by omega
    have l2 : i < ys.length := by omega
    refine codeAny_builtin F.entry_extend_loop ?_
    rw [Around.under_plainId F.plain_extend_loop _]
    show wpAny _ A.in1 (pyNext (.ref (N + 4)) >>= _) _ _ s
    refine bd (zip_step hA G1 G2 ha hb I hf st qx qy (List.getElem?_eq_getElem l1) (List.getElem?_eq_getElem l2) fun T s1 hT eT I1 st1 hf1 k1 => ?_)
    have hS1 : upd H T (.tup [xs[i], ys[i]]) S = some (.lst vs) := by rw [upd_ne (ne_of_none hS hT)]; exact hS
    obtain ⟨hz, its, m, rv, hlen, hget⟩ := I1.lstM hS1
    have nS : S ∉ zc N := fun h => by
      have := (hf1 S h).1
      rw [hS1] at this; cases this
    show wpAny _ A.in1 (updateSeq S (·.push (Value.ref T)) >>= _) _ _ s1
    refine bd ?_
    have h6 : 1000000 < sizeLine := by decide
    have z1 : its.toArray.size ≤ sizeLine := by simp; omega
    have z2 : (its.toArray.push (Value.ref T)).size ≤ sizeLine + 1 := by rw [Array.size_push]; simp; omega
    have I2 : Inv X pins σ (upd (upd H T (.tup [xs[i], ys[i]])) S (.lst (vs ++ [.ref T]))) { s1 with heap := s1.heap.update S (Obj.mapSeq (·.push (Value.ref T))) } :=
      I1.lset (t' := s1.toks) (its' := its ++ [Value.ref T]) hS1 hget (by simp) (rv.append (.cons rfl .nil)) (by rw [List.length_append]; exact line_of' hl)
    refine wpAny_updateSeq hget rfl (wpAny_pure ⟨plainId_quiet F.plain_extend_loop _, ?_⟩) z1 z2
    refine ih (i + 1) _ _ _ (by omega) (by omega) I2 (fun c hc => ?_) (zat_keep G1 G2 st1 fun c hc o e => (Heap.get?_update_other _ _ (fun z : S = c => nS (z ▸ hc))).trans e) (go i H vs T _ _ g hT (List.getElem?_eq_getElem l1) (List.getElem?_eq_getElem l2))
    obtain ⟨r0, r⟩ := hf1 c hc
    exact ⟨by rw [upd_ne (fun z : c = S => nS (z ▸ hc))]; exact r0, r⟩
theorem upd_again {H : Hp} {a : Addr} {o o' : HO} : upd (upd H a o) a o' = upd H a o' := by
  funext c
  by_cases h : c = a
  · subst h; rw [upd_same, upd_same]
  · rw [upd_ne h, upd_ne h, upd_ne h]
theorem upd_self {H : Hp} {a : Addr} {o : HO} (e : H a = some o) : upd H a o = H := by
  funext c
  by_cases h : c = a
  · subst h; rw [upd_same, e]
  · rw [upd_ne h]
/-- list.extend of an empty list by a zip -/
theorem zip_extend {A : Around} {R : Result → Shared → Prop} {S : Addr} {res : Value} (hA : A.in1.in1.handled = none) (G1 : Half X.prog X.w X.K a N S1 tn1 o1 B1) (G2 : Half X.prog X.w X.K b (N + 1) S2 tn2 o2 B2) (ha : a < N) (hb : b < N) (G : Nat → Hp → List V → Prop)
    (hG : ∀ i H vs, G i H vs → S1 H xs ∧ S2 H ys ∧ H S = some (.lst vs) ∧ vs.length < 1000000) (n : Nat) (hn : n = min xs.length ys.length)
    (go : ∀ i H vs T x y, G i H vs → H T = none → xs[i]? = some x → ys[i]? = some y → G (i + 1) (upd (upd H T (.tup [x, y])) S (.lst (vs ++ [.ref T]))) (vs ++ [.ref T]))
    (fin : ∀ H vs s', G n H vs → Inv X pins σ H s' → R (.ok (.ret res)) s') (I : Inv X pins σ H s) (hf : ∀ c ∈ zc N, FpOk X pins H c) (st : Zat N tn1 tn2 0 s.heap) (g : G 0 H []) :
    wpAny (model X.prog X.w) A.in1 (Builtin.List.listExtendWith (.ref S) (.ref (N + 4)) res)
      (fun fin s' => match fin with | .done f => R (.ok f) s' | .again c' => c'.quiet = true ∧ codeAny (model X.prog X.w) A c' R s') (fun e s' => R (.error e) s') s := by
  obtain ⟨qx, qy, hS, _⟩ := hG _ _ _ g
  have nS : S ∉ zc N := fun h => by
    have := (hf S h).1
    rw [hS] at this; cases this
  have nz : S ≠ N + 4 := fun e => nS (by simp [zc, e])
  obtain ⟨f0, f1, hZ, _⟩ := id st.1
  have hT : s.TypeIs (.ref (N + 4)) "zip" := ⟨_, hZ, rfl⟩
  unfold Builtin.List.listExtendWith
  refine bd (wpAny_typeOf hT ?_)
  have c1 : Builtin.List.listSameRef (.ref S) (.ref (N + 4)) = false := by simp [Builtin.List.listSameRef, nz]
  have c2 : (Value.type "zip" == Value.type "list") = false := by decide
  have c3 : (Value.type "zip" == Value.type "tuple") = false := by decide
  simp only [c1, c2, c3, Bool.or_false, Bool.false_eq_true, if_false]
  refine bd (zip_self st.1 (bd (wpAny_holding ?_)))
  unfold Builtin.List.listLengthHint
  refine bd (wpAny_specialOf hT zip_no_len ?_)
  show wpAny _ A.in1 (specialOf (Value.ref (N + 4)) (Str.ofString "__length_hint__") >>= _) _ _ s
  refine bd (wpAny_specialOf hT zip_no_hint (wpAny_pure ?_))
  show wpAny _ A.in1 (rule "list.extend.makes-room" >>= fun _ => Builtin.List.listTouch (.ref S) >>= fun _ => again (.builtin "list.extend.loop" ⟨[.ref S, .ref (N + 4), res], []⟩)) _ _ s
  refine bd (wpAny_rule (bd ?_))
  show wpAny _ A.in1 (updateSeq S (fun q => q.push .none) >>= fun _ => updateSeq S (fun q => q.pop)) _ _ s
  obtain ⟨_, its, m, rv, hlen, hget⟩ := I.lstM hS
  have e0 : its = [] := by cases its with
    | nil => rfl
    | cons _ _ => simp at hlen
  subst e0
  have I1 : Inv X pins σ (upd H S (.lst [V.non])) { s with heap := s.heap.update S (Obj.mapSeq fun q => q.push .none) } := I.lset (t' := s.toks) (its' := [Value.none]) hS hget (by simp) (.cons rfl .nil) (by decide)
  obtain ⟨_, its1, m1, rv1, hlen1, hget1⟩ := I1.lstM upd_same
  have e1 : its1 = [Value.none] := by cases rv1 with
    | cons r t => cases t; cases r; rfl
  subst e1
  have I2 := I1.lset (t' := s.toks) (its' := []) (ys := []) (f := fun q => q.pop) upd_same hget1 (by simp) .nil (by decide)
  rw [upd_again, upd_self hS] at I2
  refine bd (wpAny_updateSeq hget rfl (wpAny_updateSeq hget1 rfl (wpAny_pure ⟨plainId_quiet F.plain_extend_loop _, ?_⟩) (by decide) (by decide)) (by decide) (by decide))
  refine zip_loop hA G1 G2 ha hb G hG n hn go fin n 0 H [] _ (by omega) (Nat.zero_le _) I2 hf (zat_keep G1 G2 st fun c hc o e => ?_) g
  have ne : S ≠ c := fun z => nS (z ▸ hc)
  exact (Heap.get?_update_other _ _ ne).trans ((Heap.get?_update_other _ _ ne).trans e)

/-- a zip has been made -/
def ZMade (X : Cx) (pins : List (Addr × Obj)) (σ : L2.St) (R : Addr → Addr → (Hp → List V → Prop) → (Hp → List V → Prop) → List V → List V → Hp → Prop) (v : Value) (s : Shared) : Prop :=
  ∃ (N : Nat) (a b : Addr) (S1 S2 : Hp → List V → Prop) (tn1 tn2 : Nat → Heap → Prop) (o1 o2 : Obj) (B1 B2 : Array Value → Heap → Prop) (xs ys : List V) (H1 : Hp), v = .ref (N + 4) ∧ Inv X pins σ H1 s ∧ Half X.prog X.w X.K a N S1 tn1 o1 B1 ∧ Half X.prog X.w X.K b (N + 1) S2 tn2 o2 B2 ∧
    a < N ∧ b < N ∧ Zat N tn1 tn2 0 s.heap ∧ (∀ c ∈ zc N, FpOk X pins H1 c) ∧ S1 H1 xs ∧ S2 H1 ys ∧ R a b S1 S2 xs ys H1
theorem zip_made {e e2 : Expr} {ta : TA} {p pos : Pos} {R : Addr → Addr → (Hp → List V → Prop) → (Hp → List V → Prop) → List V → List V → Hp → Prop} (hg : Gl X "zip") (hm : X.mg "zip" = none) (ha : PA X [e, e2] ta)
    (hs : starEach [e, e2] X.env = (false, eval e X.env) :: starEach [e2] X.env) (hpl : (backTo pos (starEach [e2] X.env)).any (·.1) = false) (I : Inv X pins σ H s)
    (h : ta σ H fun vs H1 => ∃ a b S1 S2 xs ys, vs = [.ref a, .ref b] ∧ Sd X.K a S1 ∧ Sd X.K b S2 ∧ S1 H1 xs ∧ S2 H1 ys ∧ R a b S1 S2 xs ys H1) :
    wpAny (model X.prog X.w) X.A (eval (.Call (.Name "zip" p) [e, e2] [] pos) X.env) (ZMade X pins σ R) X.xe s := by
  refine Call_ (ld_blt I hg hm PyProof.Rows.boot_zip (PyProof.Rows.callWith_type1 (thn (ha.run pos pins s σ H _ I h) fun us s1 ⟨vs, H1, I1, r1, q1⟩ => ?_) hs hpl))
  obtain ⟨a, b, S1, S2, xs, ys, ex, d1, d2, qx, qy, q⟩ := q1
  subst ex
  cases r1 with
  | cons r rr =>
    cases rr with
    | cons r' rr =>
      cases rr
      cases r
      cases r'
      obtain ⟨tn1, o1, B1, G1⟩ := d1.half X.prog X.w s1.heap.objs.size
      obtain ⟨tn2, o2, B2, G2⟩ := d2.half X.prog X.w (s1.heap.objs.size + 1)
      obtain ⟨its, rv, p1, la⟩ := G1.inv X rfl rfl rfl pins σ H1 s1 xs I1 qx
      obtain ⟨its2, rv2, p2, lb⟩ := G2.inv X rfl rfl rfl pins σ H1 s1 ys I1 qy
      refine zip_begins2 (G1.begins its.toArray) (G2.begins its2.toArray) p1 p2 fun h' hz hI hO g1 g2 sz hk => ?_
      have hz' : ZOut h' (s1.heap.objs.size + 4) (s1.heap.objs.size + 2) (s1.heap.objs.size + 3) := ⟨_, _, hz, .inl rfl⟩
      have I2 : Inv X pins σ H1 { s1 with heap := h' } := I1.kept (t' := s1.toks) hk
      refine ⟨s1.heap.objs.size, a, b, S1, S2, tn1, tn2, o1, o2, B1, B2, xs, ys, H1, rfl, I2, G1, G2, la, lb, ⟨hz', ⟨_, _, hO⟩, hI, G1.first _ g1, G2.first _ g2⟩, fun c hcm => ?_, qx, qy, q⟩
      have hle : s1.heap.objs.size ≤ c := by
        rcases zc_cases hcm with q | q | q | q | q
        · rw [q]; exact Nat.le_add_right _ 4
        · rw [q]; exact Nat.le_add_right _ 2
        · rw [q]; exact Nat.le_add_right _ 3
        · rw [q]; exact Nat.le_refl _
        · rw [q]; exact Nat.le_add_right _ 1
      exact I1.fpOk hle (I1.hok.fresh hle)
/-- what a list of pairs must keep while it is made -/
structure ZG (K : PySem.W.Frag) (S : Addr) (S1 S2 : Hp → List V → Prop) (xs ys : List V) (G : Nat → Hp → List V → Prop) (H1 : Hp) (Q : VK) : Prop where
  st : ∀ i H vs, G i H vs → S1 H xs ∧ S2 H ys ∧ H S = some (.lst vs) ∧ vs.length < 1000000
  go : ∀ i H vs T x y, G i H vs → H T = none → xs[i]? = some x → ys[i]? = some y → G (i + 1) (upd (upd H T (.tup [x, y])) S (.lst (vs ++ [.ref T]))) (vs ++ [.ref T])
  first : G 0 (upd H1 S (.lst [])) []
  fin : ∀ H vs, G (min xs.length ys.length) H vs → Q (.ref S) H
def tLstZip (K : PySem.W.Frag) (ta : TA) : TE := fun σ H Q => ta σ H fun vs H1 => ∃ a b S1 S2 xs ys, vs = [.ref a, .ref b] ∧ Sd K a S1 ∧ Sd K b S2 ∧ S1 H1 xs ∧ S2 H1 ys ∧ ∀ S, H1 S = none → ∃ G, ZG K S S1 S2 xs ys G H1 Q
theorem pe_listZip {e e2 : Expr} {ta : TA} {p q pos zpos : Pos} (hc : X.calm = true) (hg : Gl X "list") (hm : X.mg "list" = none) (hg2 : Gl X "zip") (hm2 : X.mg "zip" = none) (ha : PA X [e, e2] ta)
    (hs : starEach [e, e2] X.env = (false, eval e X.env) :: starEach [e2] X.env := by rfl) (hpl : (backTo zpos (starEach [e2] X.env)).any (·.1) = false := by rfl)
    (na : starEach [.Call (.Name "zip" q) [e, e2] [] zpos] X.env = (false, eval (.Call (.Name "zip" q) [e, e2] [] zpos) X.env) :: starEach [] X.env := by rfl) :
    PE X (.Call (.Name "list" p) [.Call (.Name "zip" q) [e, e2] [] zpos] [] pos) (tLstZip X.K ta) := by
  refine ⟨fun pins s σ H Q I h => ?_⟩
  refine Call_ (ld_blt I hg hm boot_list (PyProof.Rows.callWith_type1 (args_cons (thn (zip_made (R := fun a b S1 S2 xs ys H1 => ∀ S, H1 S = none → ∃ G, ZG X.K S S1 S2 xs ys G H1 Q) hg2 hm2 ha hs hpl I h) fun x s1 zm => args_nil ?_) na) na))
  obtain ⟨N, a, b, S1, S2, tn1, tn2, o1, o2, B1, B2, xs, ys, H1, ex, I1, G1, G2, la, lb, st, hf, qx, qy, q⟩ := zm
  subst ex
  obtain ⟨G, Z⟩ := q s1.heap.objs.size (I1.hok.fresh (Nat.le_refl _))
  have hh := I1.ok.hd hc
  refine callType_codes (Q₁ := fun obj s₁ => obj = .ref s1.heap.objs.size ∧ s₁ = { s1 with heap := s1.heap.push { cls := .type "list", data := .seq #[] } }) F.called_list (F.typeCall_list_1 _) F.entry_list_init (code_list_new _ ⟨rfl, rfl⟩) fun obj s₁ h₁ => ?_
  obtain ⟨rfl, rfl⟩ := h₁
  have I2 : Inv X pins σ (upd H1 s1.heap.objs.size (.lst [])) { s1 with heap := s1.heap.push { cls := .type "list", data := .seq #[] } } := I1.lnew (its := []) (t' := s1.toks) .nil (by decide)
  have lt := zat_lt G1 G2 st
  have hf2 : ∀ c ∈ zc N, FpOk X pins (upd H1 s1.heap.objs.size (.lst [])) c := fun c hcm => by
    obtain ⟨r0, r⟩ := hf c hcm
    exact ⟨by rw [upd_ne (Nat.ne_of_lt (lt c hcm))]; exact r0, r⟩
  have st2 : Zat N tn1 tn2 0 (s1.heap.push { cls := .type "list", data := .seq #[] }) := zat_keep G1 G2 st fun c _ o e => Heap.get?_push_of_some _ e
  have hget : (s1.heap.push { cls := .type "list", data := .seq #[] }).get? s1.heap.objs.size = some { cls := .type "list", data := .seq #[] } := Heap.get?_push_size _ rfl
  refine ⟨⟨_, hget, rfl⟩, F.args_list_init_2 _ _, ?_⟩
  show wpAny _ _ (Builtin.List.listItems (.ref s1.heap.objs.size) >>= fun old => Builtin.List.listUpdate (.ref s1.heap.objs.size) (fun _ => #[]) >>= fun _ => letGo old.toList.reverse >>= fun _ => Builtin.List.listExtendWith (.ref s1.heap.objs.size) (.ref (N + 4)) .none) _ _ _
  refine bd ?_
  unfold Builtin.List.listItems
  refine bd (wpAny_seqItems hget rfl (wpAny_pure (bd ?_)))
  show wpAny _ _ (updateSeq s1.heap.objs.size (fun _ => #[])) _ _ _
  have I3 := I2.lset (t' := s1.toks) (its := []) (its' := []) (ys := []) (f := fun _ => #[]) upd_same hget rfl .nil (by decide)
  rw [upd_again] at I3
  refine wpAny_updateSeq hget rfl (bd (wpAny_letGo ?_)) (by decide) (by decide)
  refine zip_extend (A := X.A.in1) hh G1 G2 la lb G Z.st _ rfl Z.go (fun H' vs s' g I' => ?_) I3 hf2 (zat_keep G1 G2 st2 fun c hcm o e => ?_) Z.first
  · exact ⟨rfl, .ref s1.heap.objs.size, H', I', rfl, Z.fin _ _ g⟩
  · exact (Heap.get?_update_other _ _ (fun z : s1.heap.objs.size = c => absurd (lt c hcm) (by rw [← z]; exact Nat.lt_irrefl _))).trans e
end
end Fx

set_option Elab.async false
set_option linter.all false
set_option maxRecDepth 100000
set_option maxHeartbeats 4000000
set_option autoImplicit false
/-! Fx, part P: zip, enumerate, list(zip(..)), dict displays, three names at once. -/
namespace Fx
open PySem PySem.Spec PyProof.Rows L2

/-! ### two sides -/
/-- the items behind a value, and what must stand for them to stay -/
def side (st : Store) : D → Option (List D × (Store → Prop))
  | .tup xs => some (xs, Sq.any)
  | .lz xs => some (xs, Sq.any)
  | .ref n => match st[n]? with
    | some (.lst xs) => some (xs, Sq.at n xs)
    | _ => none
  | _ => none
structure SideOk (M : Md) (H0 : Hp) (φ0 : List Addr) (xs : List D) (ok : Store → Prop) (S : Hp → List V → Prop) : Prop where
  at_ : ∀ H φ st, Ext H0 φ0 H φ → RS M.P M.w M.K H φ st → ok st → ∃ vs, S H vs ∧ RDs M.K H φ xs vs
theorem side_ok {M : Md} {H0 : Hp} {φ0 : List Addr} {st : Store} {d : D} {v : V} {xs : List D} {ok : Store → Prop} (s : RS M.P M.w M.K H0 φ0 st) (r : RD M.K H0 φ0 d v) (e : side st d = some (xs, ok)) :
    ∃ a S vs, v = .ref a ∧ Sd M.K a S ∧ S H0 vs ∧ RDs M.K H0 φ0 xs vs ∧ SideOk M H0 φ0 xs ok S ∧ ok st := by
  unfold side at e
  split at e
  · cases e
    cases r with
    | tup h t => exact ⟨_, _, _, rfl, .inr rfl, SqT.of h, t, ⟨fun H φ st e _ _ => ⟨_, SqT.of (e.tup _ _ h), t.mono e.mono⟩⟩, trivial⟩
  · cases e
    cases r with
    | lz h t => exact ⟨_, _, _, rfl, .inl rfl, h.sq, t, ⟨fun H φ st e _ _ => ⟨_, (e.fzL h).sq, t.mono e.mono⟩⟩, trivial⟩
  · split at e
    · rename_i n xs' e1
      cases e
      cases r with
      | ref h =>
        obtain ⟨o, e2, ro⟩ := s.os.get h
        rw [e1] at e2; cases e2
        cases ro with
        | lst q t => exact ⟨_, _, _, rfl, .inl rfl, SqL.of q, t, ⟨fun H φ st e s ok => by
            obtain ⟨o, e3, ro⟩ := s.os.get (e.get h)
            unfold Sq.at at ok
            rw [e3] at ok; cases ok
            cases ro with
            | lst q t => exact ⟨_, SqL.of q, t⟩⟩, e1⟩
    · cases e
  · cases e
theorem Sd.inj {X : Cx} {pins : List (Addr × Obj)} {σ : L2.St} {H : Hp} {s : Shared} {a : Addr} {S : Hp → List V → Prop} {xs ys : List V} (d : Sd X.K a S) (I : Inv X pins σ H s) (h : S H xs) (h' : S H ys) : xs = ys := by
  rcases d with e | e
  · subst e; exact I.list_inj h h'
  · subst e; exact I.tuple_inj h h'

theorem Sd.keep {K : PySem.W.Frag} {H H' : Hp} {a : Addr} {S : Hp → List V → Prop} {xs : List V} (d : Sd K a S) (h : S H xs) (k : ∀ n o, H n = some o → H' n = some o) : S H' xs := by
  rcases d with e | e
  · subst e
    rcases h with (h | ⟨o, h⟩) | h
    · exact .inl (.inl (k _ _ h))
    · exact .inl (.inr ⟨o, k _ _ h⟩)
    · exact .inr h
  · subst e
    rcases h with (h | ⟨o, h⟩) | h
    · exact .inl (.inl (k _ _ h))
    · exact .inl (.inr ⟨o, k _ _ h⟩)
    · exact .inr h
def pairD (x y : D) : D := .tup [x, y]
def fZip (g : FA) : FI := fun env st => (g env st).bind fun ds st1 => match ds with
  | [d1, d2] => match side st1 d1, side st1 d2 with
    | some p, some q => .ok ⟨List.zipWith pairD p.1 q.1, fun s => p.2 s ∧ q.2 s⟩ st1
    | _, _ => .stuck
  | _ => .stuck
def enumD : Nat → List D → List D
  | _, [] => []
  | i, d :: ds => pairD (.int (i : Nat)) d :: enumD (i + 1) ds
theorem enumD_len : ∀ (ds : List D) (i : Nat), (enumD i ds).length = ds.length
  | [], _ => rfl
  | _ :: ds, i => by simp [enumD, enumD_len ds]
theorem enumD_get : ∀ (ds : List D) (i j : Nat), (enumD i ds)[j]? = (ds[j]?).map (pairD (.int ((i + j : Nat))))
  | [], _, _ => by simp [enumD]
  | d :: ds, i, 0 => by simp [enumD]
  | d :: ds, i, j + 1 => by
    have := enumD_get ds (i + 1) j
    simp only [enumD, List.getElem?_cons_succ, this]
    rw [show i + 1 + j = i + (j + 1) by omega]
def fEnum (g : FA) : FI := fun env st => (g env st).bind fun ds st1 => match ds with
  | [d] => match side st1 d with
    | some p => .ok ⟨enumD 0 p.1, p.2⟩ st1
    | _ => .stuck
  | _ => .stuck
section
variable {X : Cx} {W : WX} {tg e e2 : Expr} {g : FA} {p pos tpos q zpos : Pos} {elts : List Expr} {kk : Nat}
theorem zip_get {xs ys : List D} {i : Nat} {x y : D} (h : xs[i]? = some x) (h' : ys[i]? = some y) : (List.zipWith pairD xs ys)[i]? = some (pairD x y) := by rw [List.getElem?_zipWith, h, h']
theorem rd_pair {K : PySem.W.Frag} {H : Hp} {φ : List Addr} {T : Addr} {x y : D} {u v : V} (h : H T = some (.tup [u, v])) (r : RD K H φ x u) (r' : RD K H φ y v) : RD K H φ (pairD x y) (.ref T) := .tup h (.cons r (.cons r' .nil))
theorem src_zip {M : Md} {H0 : Hp} {φ0 : List Addr} {S1 S2 : Hp → List V → Prop} {xs ys : List D} {ok1 ok2 : Store → Prop} (h1 : SideOk M H0 φ0 xs ok1 S1) (h2 : SideOk M H0 φ0 ys ok2 S2) :
    Src M H0 φ0 ⟨List.zipWith pairD xs ys, fun s => ok1 s ∧ ok2 s⟩ (ItG S1 S2) where
  goes := fun i H φ st hi e s ok => by
    simp only [List.length_zipWith] at hi
    obtain ⟨vs, q1, t1⟩ := h1.at_ H φ st e s ok.1
    obtain ⟨ws, q2, t2⟩ := h2.at_ H φ st e s ok.2
    have a1 := t1.length
    have a2 := t2.length
    exact ⟨vs, ws, vs[i], ws[i], q1, q2, List.getElem?_eq_getElem (by omega), List.getElem?_eq_getElem (by omega)⟩
  stops := fun H φ st e s ok => by
    simp only [List.length_zipWith]
    obtain ⟨vs, q1, t1⟩ := h1.at_ H φ st e s ok.1
    obtain ⟨ws, q2, t2⟩ := h2.at_ H φ st e s ok.2
    have a1 := t1.length
    have a2 := t2.length
    exact ⟨vs, ws, q1, q2, by omega, by omega, by omega⟩
  yields := fun i H φ st x H' hi e s ok y => by
    obtain ⟨T, u, v, rfl, hT, rfl, f1, f2⟩ := y
    obtain ⟨vs, q1, t1⟩ := h1.at_ H φ st e s ok.1
    obtain ⟨ws, q2, t2⟩ := h2.at_ H φ st e s ok.2
    obtain ⟨d1, e1, r1⟩ := t1.get' (f1 vs q1)
    obtain ⟨d2, e2, r2⟩ := t2.get' (f2 ws q2)
    exact ⟨Ext.new hT, s.new hT, pairD d1 d2, zip_get e1 e2, rd_pair upd_same (r1.mono (Ext.new hT).mono) (r2.mono (Ext.new hT).mono)⟩
theorem src_enum {M : Md} {H0 : Hp} {φ0 : List Addr} {S : Hp → List V → Prop} {xs : List D} {ok : Store → Prop} (h1 : SideOk M H0 φ0 xs ok S) : Src M H0 φ0 ⟨enumD 0 xs, ok⟩ (ItE S) where
  goes := fun i H φ st hi e s k => by
    rw [enumD_len] at hi
    obtain ⟨vs, q1, t1⟩ := h1.at_ H φ st e s k
    have a1 := t1.length
    exact ⟨vs, vs[i], q1, List.getElem?_eq_getElem (by omega)⟩
  stops := fun H φ st e s k => by
    obtain ⟨vs, q1, t1⟩ := h1.at_ H φ st e s k
    exact ⟨vs, q1, by rw [enumD_len]; exact t1.length.symm⟩
  yields := fun i H φ st x H' hi e s k y => by
    obtain ⟨T, u, rfl, hT, rfl, f1⟩ := y
    obtain ⟨vs, q1, t1⟩ := h1.at_ H φ st e s k
    obtain ⟨d1, e1, r1⟩ := t1.get' (f1 vs q1)
    exact ⟨Ext.new hT, s.new hT, pairD (.int (i : Nat)) d1, by rw [enumD_get, e1]; simp, rd_pair upd_same (.int _) (r1.mono (Ext.new hT).mono)⟩
theorem si_zip (hg : Gl X "zip") (hm : X.mg "zip" = none) (ha : SA X W [e, e2] g)
    (hs : starEach [e, e2] X.env = (false, eval e X.env) :: starEach [e2] X.env := by rfl) (hpl : (backTo pos (starEach [e2] X.env)).any (·.1) = false := by rfl) :
    SI X W tg (.Call (.Name "zip" p) [e, e2] [] pos) (fZip g) := by
  refine pi_imp (pi_zipG hg hm ha hs hpl) fun σ H R ⟨env, st, φ, a, q⟩ => ⟨env, st, φ, a, (Post.bind q).mono fun ds H1 φ1 st1 e1 s1 q1 vs rv => ?_⟩
  split at q1
  · split at q1
    · rename_i d1 d2 pp qq k1 k2
      cases rv with
      | cons r1 rr =>
        cases rr with
        | cons r2 rr =>
          cases rr
          obtain ⟨xs, ok1⟩ := pp
          obtain ⟨ys, ok2⟩ := qq
          obtain ⟨a, S1, us, rfl, d1, w1, _, o1, _⟩ := side_ok (M := X.md) s1 r1 k1
          obtain ⟨b, S2, ws, rfl, d2, w2, _, o2, _⟩ := side_ok (M := X.md) s1 r2 k2
          exact ⟨a, b, S1, S2, rfl, d1, d2, ⟨us, w1⟩, ⟨ws, w2⟩, q1 H1 φ1 Ext.refl s1 _ (src_zip o1 o2)⟩
    · exact q1.elim
  · exact q1.elim
theorem si_enum (hg : Gl X "enumerate") (hm : X.mg "enumerate" = none) (ha : SA X W [e] g) (hs : starEach [e] X.env = [(false, eval e X.env)] := by rfl) :
    SI X W (.Tuple elts kk tpos) (.Call (.Name "enumerate" p) [e] [] pos) (fEnum g) := by
  refine pi_imp (pi_enumG hg hm ha hs) fun σ H R ⟨env, st, φ, a, q⟩ => ⟨env, st, φ, a, (Post.bind q).mono fun ds H1 φ1 st1 e1 s1 q1 vs rv => ?_⟩
  split at q1
  · split at q1
    · rename_i d pp k1
      cases rv with
      | cons r1 rr =>
        cases rr
        obtain ⟨xs, ok1⟩ := pp
        obtain ⟨a, S1, us, rfl, d1, w1, _, o1, _⟩ := side_ok (M := X.md) s1 r1 k1
        exact ⟨a, S1, rfl, d1, ⟨us, w1⟩, q1 H1 φ1 Ext.refl s1 _ (src_enum o1)⟩
    · exact q1.elim
  · exact q1.elim

/-! ### list(zip(a, b)) -/
def fListZip (g : FA) : FE := fun env st => (fZip g env st).bind fun q st1 => if q.xs.length < 1000000 then .ok (.o (.lst q.xs)) st1 else .stuck
theorem se_listZip (hc : X.calm = true) (hg : Gl X "list") (hm : X.mg "list" = none) (hg2 : Gl X "zip") (hm2 : X.mg "zip" = none) (ha : SA X W [e, e2] g)
    (hs : starEach [e, e2] X.env = (false, eval e X.env) :: starEach [e2] X.env := by rfl) (hpl : (backTo zpos (starEach [e2] X.env)).any (·.1) = false := by rfl)
    (na : starEach [.Call (.Name "zip" q) [e, e2] [] zpos] X.env = (false, eval (.Call (.Name "zip" q) [e, e2] [] zpos) X.env) :: starEach [] X.env := by rfl) :
    SE X W (.Call (.Name "list" p) [.Call (.Name "zip" q) [e, e2] [] zpos] [] pos) (fListZip g) := by
  refine pe_imp (pe_listZip hc hg hm hg2 hm2 ha hs hpl na) fun σ H Q ⟨env, st, φ, a, q⟩ => ?_
  have q' : PostE X.md W H φ σ ((g env st).bind fun ds st1 => ((match ds with
      | [d1, d2] => match side st1 d1, side st1 d2 with
        | some p, some q => .ok ⟨List.zipWith pairD p.1 q.1, fun s => p.2 s ∧ q.2 s⟩ st1
        | _, _ => .stuck
      | _ => .stuck : Out Sq).bind fun q st1 => if q.xs.length < 1000000 then .ok (.o (.lst q.xs)) st1 else .stuck)) Q := by
    unfold fListZip fZip at q
    cases hgo : g env st with
    | ok ds st1 => rw [hgo] at q; exact q
    | exc x st1 => rw [hgo] at q; exact q
    | stuck => rw [hgo] at q; exact q
  refine ⟨env, st, φ, a, (PostE.bind q').mono fun ds H1 φ1 st1 e1 s1 q1 vs rv => ?_⟩
  split at q1
  · split at q1
    · rename_i d1 d2 pp qq k1 k2
      cases rv with
      | cons r1 rr =>
        cases rr with
        | cons r2 rr =>
          cases rr
          obtain ⟨xs, ok1⟩ := pp
          obtain ⟨ys, ok2⟩ := qq
          obtain ⟨a, S1, us, rfl, d1, w1, t1, o1, c1⟩ := side_ok (M := X.md) s1 r1 k1
          obtain ⟨b, S2, ws, rfl, d2, w2, t2, o2, c2⟩ := side_ok (M := X.md) s1 r2 k2
          simp only [Out.bind] at q1
          split at q1
          · rename_i hlen
            simp only [List.length_zipWith] at hlen
            have a1 := t1.length
            have a2 := t2.length
            refine ⟨a, b, S1, S2, us, ws, rfl, d1, d2, w1, w2, fun S hS => ⟨fun i H2 vs2 => (∀ n o, H1 n = some o → H2 n = some o) ∧ Ext H1 φ1 H2 φ1 ∧ RS X.md.P X.md.w X.md.K H2 φ1 st1 ∧ H2 S = some (.lst vs2) ∧ vs2.length = i ∧ RDs X.K H2 φ1 ((List.zipWith pairD xs ys).take i) vs2 ∧ i ≤ min us.length ws.length, ?_⟩⟩
            have nS : S ∉ φ1 := s1.notin hS
            constructor
            · rintro i H2 vs2 ⟨kp, e2, s2, h2, hl, rd, hi⟩
              exact ⟨d1.keep w1 kp, d2.keep w2 kp, h2, by omega⟩
            · rintro i H2 vs2 T x y ⟨kp, e2, s2, h2, hl, rd, hi⟩ hT hx hy
              have neT : S ≠ T := ne_of_none h2 hT
              have l1 : i < us.length := (List.getElem?_eq_some_iff.mp hx).1
              have l2 : i < ws.length := (List.getElem?_eq_some_iff.mp hy).1
              have e3 : Ext H2 φ1 (upd H2 T (.tup [x, y])) φ1 := Ext.new hT
              have h3 : upd H2 T (.tup [x, y]) S = some (.lst vs2) := by rw [upd_ne neT]; exact h2
              have mu : Mono X.K (upd H2 T (.tup [x, y])) φ1 (upd (upd H2 T (.tup [x, y])) S (.lst (vs2 ++ [.ref T]))) φ1 := mono_upd h3
              obtain ⟨d, ed, rx⟩ := t1.get' hx
              obtain ⟨d', ed', ry⟩ := t2.get' hy
              have m13 : Mono X.K H1 φ1 (upd H2 T (.tup [x, y])) φ1 := (e2.trans e3).mono
              refine ⟨fun n o h => ?_, (e2.trans e3).updNew hS, rs_upd (s2.new hT) h3 nS, upd_same, by rw [List.length_append]; simpa using hl, ?_, by omega⟩
              · have hn : n ≠ S := ne_of_none h hS
                have hn2 : n ≠ T := ne_of_none (kp n o h) hT
                rw [upd_ne hn, upd_ne hn2]
                exact kp n o h
              · have et : (List.zipWith pairD xs ys).take (i + 1) = (List.zipWith pairD xs ys).take i ++ [pairD d d'] := by
                  rw [List.take_add_one, zip_get ed ed']; rfl
                rw [et]
                exact ((rd.mono e3.mono).mono mu).append (.cons ((rd_pair upd_same (rx.mono m13) (ry.mono m13)).mono mu) .nil)
            · refine ⟨fun n o h => ?_, Ext.new hS, s1.new hS, upd_same, rfl, ?_, Nat.zero_le _⟩
              · rw [upd_ne (ne_of_none h hS)]; exact h
              · rw [List.take_zero]; exact .nil
            · rintro H2 vs2 ⟨kp, e2, s2, h2, hl, rd, hi⟩
              rw [List.take_of_length_le (by simp; omega)] at rd
              exact q1 H2 φ1 e2 s2 _ ⟨S, rfl, .lst h2 rd, nS, hS⟩
          · exact q1.elim
    · exact q1.elim
  · exact q1.elim
end
end Fx

set_option Elab.async false
set_option linter.all false
set_option maxRecDepth 100000
set_option maxHeartbeats 4000000
set_option autoImplicit false
/-! Fx, part Q: dict displays with entries, three names at once, short names for the printed proofs. -/
namespace Fx
open PySem PySem.Spec PyProof.Rows L2

def fFlat : List (FE × FE) → FA
  | [] => fNil
  | p :: r => fCons p.1 (fCons p.2 (fFlat r))
def pairUp : List D → Option (List (Key × D))
  | [] => some []
  | k :: v :: r => match k.key, pairUp r with
    | some k, some t => some ((k, v) :: t)
    | _, _ => none
  | _ => none
def mergeD (kvs : List (Key × D)) : List (Key × D) := kvs.foldl (fun acc kv => putD acc kv.1 kv.2) []
def fDisp (l : List (FE × FE)) : FE := fun env st => (fFlat l env st).bind fun ds st1 => match pairUp ds with
  | some kvs => if kvs.length ≤ 15 then .ok (.o (.dK (mergeD kvs))) st1 else .stuck
  | none => .stuck
section
variable {X : Cx} {W : WX} {K : PySem.W.Frag} {H : Hp} {φ : List Addr}
def flatV : List (V × V) → List V
  | [] => []
  | p :: r => p.1 :: p.2 :: flatV r
theorem tPairs_of {σ : L2.St} : ∀ {l : List (FE × FE)} {H : Hp} {R : List (V × V) → Hp → Prop}, tA X.md W (fFlat l) σ H (fun vs H2 => ∀ ps, vs = flatV ps → R ps H2) → tPairs (l.map fun p => (tE X.md W p.1, tE X.md W p.2)) σ H R
  | [], H, R, h => by
    obtain ⟨env, st, φ, a, q⟩ := h
    exact q H φ Ext.refl a.rs [] .nil [] rfl
  | p :: r, H, R, h => by
    obtain ⟨env, st, φ, a, q⟩ := h
    refine ⟨env, st, φ, a, (Post.bind0 q).mono fun r1 H1 φ1 st1 e1 s1 q1 v1 rv1 => ?_⟩
    obtain ⟨φ2, s2, r2, e2, m2⟩ := alloc_ok s1 rv1 e1
    have q2 : PostA X.md W H1 φ2 σ ((fCons p.2 (fFlat r)) env (alloc r1 st1).2) fun vs H3 => ∀ ps, v1 :: vs = flatV ps → R ps H3 :=
      (PostA.bind (Post.rebase q1 e2)).mono fun ds H3 φ3 st3 e3 s3 q3 vs rv => q3 H3 φ3 Ext.refl s3 (v1 :: vs) (.cons (r2.mono e3.mono) rv)
    refine ⟨env, _, φ2, ⟨a.re.mono e2.mono, s2⟩, (Post.bind0 q2).mono fun r3 H3 φ3 st3 e3 s3 q3 v3 rv3 => ?_⟩
    obtain ⟨φ4, s4, r4, e4, m4⟩ := alloc_ok s3 rv3 e3
    have q4 : PostA X.md W H3 φ4 σ (fFlat r env (alloc r3 st3).2) fun vs H5 => ∀ ps, v1 :: v3 :: vs = flatV ps → R ps H5 :=
      (PostA.bind (Post.rebase q3 e4)).mono fun ds H5 φ5 st5 e5 s5 q5 vs rv => q5 H5 φ5 Ext.refl s5 (v3 :: vs) (.cons (r4.mono e5.mono) rv)
    refine tPairs_of ⟨env, _, φ4, ⟨(a.re.mono e2.mono).mono e4.mono, s4⟩, q4.mono fun ds H5 φ5 st5 _ _ q5 vs rv ps e => q5 vs rv ((v1, v3) :: ps) (by rw [e]; rfl)⟩
theorem pairUp_ok : ∀ {ds : List D} {ps : List (V × V)} {kvs : List (Key × D)}, RDs K H φ ds (flatV ps) → pairUp ds = some kvs → ∃ kws : List (Key × V), ps = kws.map (fun kv => (kV kv.1, kv.2)) ∧ RKs K H φ kvs kws ∧ kws.length = kvs.length
  | [], [], kvs, _, e => by cases e; exact ⟨[], rfl, .nil, rfl⟩
  | [], p :: ps, kvs, r, _ => by cases r
  | d :: ds, [], kvs, r, _ => by cases r
  | [d], p :: ps, kvs, r, e => by cases e
  | d :: d' :: ds, p :: ps, kvs, r, e => by
    unfold pairUp at e
    cases r with
    | cons h t =>
      cases t with
      | cons h' t =>
        split at e
        · rename_i k t' ek et
          cases e
          obtain ⟨kws, e1, r1, l1⟩ := pairUp_ok t et
          refine ⟨(k, p.2) :: kws, ?_, .cons h' r1, by simp [l1]⟩
          rw [List.map_cons, ← e1, ← key_ok h ek]
        · cases e
theorem RKs.foldl {kvs : List (Key × D)} {kws : List (Key × V)} (r : RKs K H φ kvs kws) : ∀ {acc : List (Key × D)} {bcc : List (Key × V)}, RKs K H φ acc bcc → RKs K H φ (kvs.foldl (fun acc kv => putD acc kv.1 kv.2) acc) (mergeK bcc kws) := by
  induction r with
  | nil => exact fun q => q
  | cons h t ih => exact fun q => ih (q.put _ h)
abbrev SPs (X : Cx) (W : WX) (pos : Pos) (keys : List (Option Expr)) (values : List Expr) (l : List (FE × FE)) : Prop := PPs X pos keys values (l.map fun p => (tE X.md W p.1, tE X.md W p.2))
variable {pos : Pos} {k v : Expr} {ks : List (Option Expr)} {vs : List Expr} {fk fv : FE} {l : List (FE × FE)}
theorem sps_nil : SPs X W pos [] [] [] := pps_nil
theorem sps_cons (hk : SE X W k fk) (hv : SE X W v fv) (hr : SPs X W pos ks vs l) : SPs X W pos (some k :: ks) (v :: vs) ((fk, fv) :: l) := pps_cons hk hv hr
theorem mono_updK {D0 : Addr} {kvs : List (Key × V)} {o : HO} (h : H D0 = some (.dK kvs)) : Mono K H φ (upd H D0 o) φ :=
  ⟨fun a xs q => by rw [upd_ne (ne_of q h (by intro z; cases z))]; exact q, fun a xs q => by
    rcases q with ⟨ob, q⟩ | q
    · exact .inl ⟨ob, by rw [upd_ne (ne_of q h (by intro z; cases z))]; exact q⟩
    · exact .inr q, fun _ _ q => q⟩
theorem se_disp (h : SPs X W pos ks vs l) (hall : ks.all (·.isSome) = true := by rfl) (hl : ks.length = vs.length := by rfl) (h0 : ks ≠ [] := by intro z; cases z) (h15 : ks.length ≤ 15 := by decide) : SE X W (.Dict ks vs pos) (fDisp l) := by
  refine pe_imp (pe_disp h hall hl h0 h15) fun σ H Q ⟨env, st, φ, a, q⟩ => fun p hp => ?_
  have e0 : Ext H φ (upd H p (.dK [])) φ := Ext.new hp
  have np : p ∉ φ := a.rs.notin hp
  have a0 : At X.md σ (upd H p (.dK [])) env st φ := ⟨a.re.mono e0.mono, a.rs.new hp⟩
  refine tPairs_of ⟨env, st, φ, a0, (Post.rebase (PostE.bind0 q) e0).mono fun ds H2 φ2 st2 e2 s2 q2 us rv ps eu => ?_⟩
  subst eu
  split at q2
  · rename_i kvs ek
    split at q2
    · rename_i c
      obtain ⟨kws, e1, r1, l1⟩ := pairUp_ok rv ek
      have hp2 : H2 p = some (.dK []) := e2.keep p _ upd_same np
      have np2 : p ∉ φ2 := e2.notin upd_same np
      have mu : Mono X.K H2 φ2 (upd H2 p (.dK (mergeK [] kws))) φ2 := mono_updK hp2
      refine ⟨hp2, kws, e1, by omega, ?_⟩
      have s3 : RS X.md.P X.md.w X.md.K (upd H2 p (.dK (mergeK [] kws))) φ2 st2 := s2.keep mu fun c hc u qq => by rw [upd_ne (fun z : c = p => np2 (z ▸ hc))]; exact qq
      have e3 : Ext H φ (upd H2 p (.dK (mergeK [] kws))) φ2 := (e0.trans e2).updNew hp
      exact q2 _ _ e3 s3 _ ⟨p, rfl, .dK upd_same ((r1.mono mu).foldl .nil), np2, hp⟩
    · exact q2.elim
  · exact q2.elim

def fPar3 (i j l : Nat) (g : FA) : FS := fun env st => (g env st).thenS env fun ds st1 => match ds with
  | [d, e, f] => .next (((env.set i (some d)).set j (some e)).set l (some f)) st1
  | _ => .stuck
theorem ss_par3 {i j l : Nat} {x y z : Str} {a b c : Expr} {g : FA} {px py pz pt pos : Pos} {kt k2 : Nat} {pt2 : Pos} (hc : X.calm = true) (hN : X.N.Nodup) (hi : X.N[i]? = some x) (hj : X.N[j]? = some y) (hl : X.N[l]? = some z) (hij : i ≠ j) (hil : i ≠ l) (hjl : j ≠ l)
    (hx : X.env.scope.names.lookup x = some .local) (hy : X.env.scope.names.lookup y = some .local) (hz : X.env.scope.names.lookup z = some .local) (ha : SA X W [a, b, c] g)
    (hw : swappedStores [.Tuple [.Name x px, .Name y py, .Name z pz] kt pt] (.Tuple [a, b, c] k2 pt2) X.env = pure (some [x, y, z]))
    (hs : swapsWithSole [.Tuple [.Name x px, .Name y py, .Name z pz] kt pt] (.Tuple [a, b, c] k2 pt2) pos.line X.env = pure false := by rfl) :
    SS X W (.Assign [.Tuple [.Name x px, .Name y py, .Name z pz] kt pt] (.Tuple [a, b, c] k2 pt2) pos) (fPar3 i j l g) := by
  refine ps_imp (ps_par3 hc hN hi hj hl hij hil hjl hx hy hz ha hw hs) fun D σ H ⟨env, st, φ, a, q⟩ => ?_
  refine ⟨env, st, φ, a, (PostS.bind a q).mono fun ds H1 φ1 st1 e1 s1 q1 vs rv => ?_⟩
  split at q1
  · cases rv with
    | cons h1 t1 =>
      cases t1 with
      | cons h2 t2 =>
        cases t2 with
        | cons h3 t3 =>
          cases t3
          exact ⟨_, _, _, rfl, q1 H1 φ1 _ e1 ⟨(((a.re.mono e1.mono).set h1).set h2).set h3, s1⟩⟩
  · exact q1.elim
end
end Fx

set_option Elab.async false
set_option linter.all false
set_option maxRecDepth 100000
set_option maxHeartbeats 4000000
set_option autoImplicit false
/-! Fx, part R: short words for the printed proofs. -/
namespace Fx
open PySem PySem.Spec PyProof.Rows L2

section
variable {X : Cx} {W : WX} {k : Nat} {p pos : Pos} {a b c : Expr} {fa fb fc : FE}
theorem nv (i : Nat) {x : Str} (hN : X.N[i]? = some x := by rfl) (hv : Vis X.env.scope x := by first | exact Or.inl rfl | exact Or.inr (Or.inl rfl) | exact Or.inr (Or.inr rfl)) (hd : (x == ("__debug__" : Str)) = false := by decide) (hcd : (x == ("__classdict__" : Str)) = false := by decide) : SE X W (.Name x pos) (fName i) := se_name hN hv hd hcd
theorem Cd.blk {s : Shared} {H : Hp} {scope : Scope} {cenv : PySem.Env} {fp : List Addr} (C : Cd X) : Cd (X.blk s H scope cenv fp) := ⟨C.hc, C.hu, C.hg⟩
theorem takesNo : Takes X WNo := fun u s' ⟨_, _, _, _, _, _, _, _, _, _, _, _, _, _, _, _, w⟩ => w.elim
variable (C : Cd X)
include C
theorem qEq (ha : SE X W a fa) (hb : SE X W b fb) : SE X W (.Compare a [.Eq] [b] pos) (fBin gEq fa fb) := se_cmp (op_eqD (Nat.lt_of_le_of_lt (by omega) C.hu)) op2_eq (nomark _) ha hb
theorem qNe (ha : SE X W a fa) (hb : SE X W b fb) : SE X W (.Compare a [.NotEq] [b] pos) (fBin gNe fa fb) := se_cmp (op_neD (Nat.lt_of_le_of_lt (by omega) C.hu)) op2_ne (nomark _) ha hb
theorem tEq (ha : SE X W a fa) (hb : SE X W b fb) : SB X W (.Compare a [.Eq] [b] pos) (fTrue (fBin gEq fa fb)) := sb_cmp (op_eqD (Nat.lt_of_le_of_lt (by omega) C.hu)) op2_eq (nomark _) ha hb
theorem tNe (ha : SE X W a fa) (hb : SE X W b fb) : SB X W (.Compare a [.NotEq] [b] pos) (fTrue (fBin gNe fa fb)) := sb_cmp (op_neD (Nat.lt_of_le_of_lt (by omega) C.hu)) op2_ne (nomark _) ha hb
theorem qIn (ha : SE X W a fa) (hb : SE X W b fb) (hm : behindInMarks .In b = false := by with_unfolding_all rfl) : SE X W (.Compare a [.In] [b] pos) (fBin gIn fa fb) := se_cmp (op_inV C) op2_in hm ha hb
theorem qNotIn (ha : SE X W a fa) (hb : SE X W b fb) (hm : behindInMarks .NotIn b = false := by with_unfolding_all rfl) : SE X W (.Compare a [.NotIn] [b] pos) (fBin gNotIn fa fb) := se_cmp (op_notInV C) op2_notIn hm ha hb
theorem tIn (ha : SE X W a fa) (hb : SE X W b fb) (hm : behindInMarks .In b = false := by with_unfolding_all rfl) : SB X W (.Compare a [.In] [b] pos) (fTrue (fBin gIn fa fb)) := sb_cmp (op_inV C) op2_in hm ha hb
theorem tNotIn (ha : SE X W a fa) (hb : SE X W b fb) (hm : behindInMarks .NotIn b = false := by with_unfolding_all rfl) : SB X W (.Compare a [.NotIn] [b] pos) (fTrue (fBin gNotIn fa fb)) := sb_cmp (op_notInV C) op2_notIn hm ha hb
omit C
theorem qIs (ha : SE X W a fa) (hb : SE X W b fb) : SE X W (.Compare a [.Is] [b] pos) (fBin gIsN fa fb) := se_cmp op_isN op2_isN (nomark _) ha hb
theorem qIsNot (ha : SE X W a fa) (hb : SE X W b fb) : SE X W (.Compare a [.IsNot] [b] pos) (fBin gNotN fa fb) := se_cmp op_notN op2_notN (nomark _) ha hb
theorem tIs (ha : SE X W a fa) (hb : SE X W b fb) : SB X W (.Compare a [.Is] [b] pos) (fTrue (fBin gIsN fa fb)) := sb_cmp op_isN op2_isN (nomark _) ha hb
theorem tIsNot (ha : SE X W a fa) (hb : SE X W b fb) : SB X W (.Compare a [.IsNot] [b] pos) (fTrue (fBin gNotN fa fb)) := sb_cmp op_notN op2_notN (nomark _) ha hb
theorem qLt (ha : SE X W a fa) (hb : SE X W b fb) : SE X W (.Compare a [.Lt] [b] pos) (fBin gLt fa fb) := se_cmp op_lt op2_lt (nomark _) ha hb
theorem qLe (ha : SE X W a fa) (hb : SE X W b fb) : SE X W (.Compare a [.LtE] [b] pos) (fBin gLe fa fb) := se_cmp op_le op2_le (nomark _) ha hb
theorem qGt (ha : SE X W a fa) (hb : SE X W b fb) : SE X W (.Compare a [.Gt] [b] pos) (fBin gGt fa fb) := se_cmp op_gt op2_gt (nomark _) ha hb
theorem qGe (ha : SE X W a fa) (hb : SE X W b fb) : SE X W (.Compare a [.GtE] [b] pos) (fBin gGe fa fb) := se_cmp op_ge op2_ge (nomark _) ha hb
theorem tLt (ha : SE X W a fa) (hb : SE X W b fb) : SB X W (.Compare a [.Lt] [b] pos) (fTrue (fBin gLt fa fb)) := sb_cmp op_lt op2_lt (nomark _) ha hb
theorem tLe (ha : SE X W a fa) (hb : SE X W b fb) : SB X W (.Compare a [.LtE] [b] pos) (fTrue (fBin gLe fa fb)) := sb_cmp op_le op2_le (nomark _) ha hb
theorem tGt (ha : SE X W a fa) (hb : SE X W b fb) : SB X W (.Compare a [.Gt] [b] pos) (fTrue (fBin gGt fa fb)) := sb_cmp op_gt op2_gt (nomark _) ha hb
theorem tGe (ha : SE X W a fa) (hb : SE X W b fb) : SB X W (.Compare a [.GtE] [b] pos) (fTrue (fBin gGe fa fb)) := sb_cmp op_ge op2_ge (nomark _) ha hb
theorem bAdd (ha : SE X W a fa) (hb : SE X W b fb) : SE X W (.BinOp a .Add b pos) (fBin gAdd fa fb) := se_op op_add4 op2_add ha hb
theorem bSub (ha : SE X W a fa) (hb : SE X W b fb) : SE X W (.BinOp a .Sub b pos) (fBin gSub fa fb) := se_op op_sub op2_sub ha hb
theorem bMul (ha : SE X W a fa) (hb : SE X W b fb) : SE X W (.BinOp a .Mult b pos) (fBin gMul fa fb) := se_op op_mul2 op2_mul ha hb
theorem bMod (ha : SE X W a fa) (hb : SE X W b fb) : SE X W (.BinOp a .Mod b pos) (fBin gMod fa fb) := se_op op_mod op2_mod ha hb
theorem bDiv (ha : SE X W a fa) (hb : SE X W b fb) : SE X W (.BinOp a .FloorDiv b pos) (fBin gDiv fa fb) := se_op op_fdiv op2_div ha hb
theorem bPow (ha : SE X W a fa) (hb : SE X W b fb) : SE X W (.BinOp a .Pow b pos) (fBin gPow fa fb) := se_op op_pow op2_pow ha hb
theorem ix (C : Cd X) (ha : SE X W a fa) (hb : SE X W b fb) (hs : PlainIx b := by intro _ _; rfl) : SE X W (.Subscript a b pos) (fBin gIx fa fb) := se_ix C ha hb hs
theorem cLen (hg : Gl X "len") (hm : X.mg "len" = none) (ha : SE X W a fa) (he : starEach (a :: []) X.env = (false, eval a X.env) :: starEach [] X.env := by rfl) (hpl : (backTo pos (starEach [] X.env)).any (·.1) = false := by rfl) : SE X W (.Call (.Name "len" p) [a] [] pos) (fCall1 gLen fa) := se_callB call_len cr1_len hg hm (by decide +kernel) ha (by decide) (by decide) he hpl
theorem cAbs (hg : Gl X "abs") (hm : X.mg "abs" = none) (ha : SE X W a fa) (he : starEach (a :: []) X.env = (false, eval a X.env) :: starEach [] X.env := by rfl) (hpl : (backTo pos (starEach [] X.env)).any (·.1) = false := by rfl) : SE X W (.Call (.Name "abs" p) [a] [] pos) (fCall1 gAbs fa) := se_callB call_abs cr1_abs hg hm (by decide +kernel) ha (by decide) (by decide) he hpl
theorem cRepr (C : Cd X) (hg : Gl X "repr") (hm : X.mg "repr" = none) (ha : SE X W a fa) (he : starEach (a :: []) X.env = (false, eval a X.env) :: starEach [] X.env := by rfl) (hpl : (backTo pos (starEach [] X.env)).any (·.1) = false := by rfl) : SE X W (.Call (.Name "repr" p) [a] [] pos) (fCall1 gRepr fa) := se_callB (call_reprV C) cr1_repr hg hm (by decide +kernel) ha (by decide) (by decide) he hpl
theorem cSorted (C : Cd X) (hg : Gl X "sorted") (hm : X.mg "sorted" = none) (ha : SE X W a fa) (he : starEach (a :: []) X.env = (false, eval a X.env) :: starEach [] X.env := by rfl) (hpl : (backTo pos (starEach [] X.env)).any (·.1) = false := by rfl) : SE X W (.Call (.Name "sorted" p) [a] [] pos) (fCall1 gSorted fa) := se_callB (cr_sortedA C) cr1_sorted hg hm (by decide +kernel) ha (by decide) (by decide) he hpl
theorem cInt (hg : Gl X "int") (hm : X.mg "int" = none) (ha : SE X W a fa) (he : starEach (a :: []) X.env = (false, eval a X.env) :: starEach [] X.env := by rfl) (hpl : (backTo pos (starEach [] X.env)).any (·.1) = false := by rfl) : SE X W (.Call (.Name "int" p) [a] [] pos) (fCall1 gInt fa) := se_callTy call_int1 cr1_int hg hm (by decide +kernel) ha (by decide) (by decide) he hpl
theorem cTuple (hg : Gl X "tuple") (hm : X.mg "tuple" = none) (ha : SE X W a fa) (he : starEach (a :: []) X.env = (false, eval a X.env) :: starEach [] X.env := by rfl) (hpl : (backTo pos (starEach [] X.env)).any (·.1) = false := by rfl) : SE X W (.Call (.Name "tuple" p) [a] [] pos) (fCall1 gTuple fa) := se_callTy call_tuple_of cr1_tuple hg hm (by decide +kernel) ha (by decide) (by decide) he hpl
theorem cList (hg : Gl X "list") (hm : X.mg "list" = none) (ha : SE X W a fa) (he : starEach (a :: []) X.env = (false, eval a X.env) :: starEach [] X.env := by rfl) (hpl : (backTo pos (starEach [] X.env)).any (·.1) = false := by rfl) : SE X W (.Call (.Name "list" p) [a] [] pos) (fCall1 gList fa) := se_callTy call_list_of cr1_list hg hm (by decide +kernel) ha (by decide) (by decide) he hpl
theorem cSet (C : Cd X) (hg : Gl X "set") (hm : X.mg "set" = none) (ha : SE X W a fa) (he : starEach (a :: []) X.env = (false, eval a X.env) :: starEach [] X.env := by rfl) (hpl : (backTo pos (starEach [] X.env)).any (·.1) = false := by rfl) : SE X W (.Call (.Name "set" p) [a] [] pos) (fCall1 gSetT fa) := se_callTy (cr_setOfT C.hc (Nat.lt_of_le_of_lt (by omega) C.hu)) cr1_setT hg hm (by decide +kernel) ha (by decide) (by decide) he hpl
end
theorem gl_nil : ∀ env st ds st', fNil env st = .ok ds st' → ds.length = 0 := fun env st ds st' h => by
  unfold fNil at h; cases h; rfl
theorem gl_cons {f : FE} {g : FA} {n : Nat} (h : ∀ env st ds st', g env st = .ok ds st' → ds.length = n) : ∀ env st ds st', fCons f g env st = .ok ds st' → ds.length = n + 1 := fun env st ds st' e => by
  unfold fCons at e
  cases e1 : f env st with
  | ok r st1 =>
    rw [e1] at e
    simp only [Out.bind] at e
    cases e2 : g env (alloc r st1).2 with
    | ok ds2 st2 => rw [e2] at e; cases e; simp [h _ _ _ _ e2]
    | exc _ _ => rw [e2] at e; cases e
    | stuck => rw [e2] at e; cases e
  | exc _ _ => rw [e1] at e; cases e
  | stuck => rw [e1] at e; cases e
end Fx

set_option Elab.async false
set_option linter.all false
set_option maxRecDepth 100000
set_option maxHeartbeats 4000000
set_option autoImplicit false
/-! Fx, part S: plain tools: what a def gives back, loops by invariants. -/
namespace Fx
open PySem PySem.Spec PyProof.Rows L2

/-! ### what is given back -/
mutual
theorem Bl.mono {n m : Nat} (h : n ≤ m) : ∀ {d : D}, Bl n d → Bl m d
  | _, .non => .non
  | _, .bl b => .bl b
  | _, .int i => .int i
  | _, .str x => .str x
  | _, .tup t => .tup (Bls.mono h t)
  | _, .lz t => .lz (Bls.mono h t)
  | _, .ref q => .ref (Nat.lt_of_lt_of_le q h)
theorem Bls.mono {n m : Nat} (h : n ≤ m) : ∀ {ds : List D}, Bls n ds → Bls m ds
  | _, .nil => .nil
  | _, .cons a b => .cons (Bl.mono h a) (Bls.mono h b)
end
theorem bls_ints {n : Nat} (L : List Int) : Bls n (L.map D.int) := Bls.of fun d hd => by
  obtain ⟨i, _, rfl⟩ := List.mem_map.mp hd
  exact .int i
theorem bl_tints {n : Nat} (L : List Int) : Bl n (.tup (L.map D.int)) := .tup (bls_ints L)
theorem oldOk_refl (st : Store) : OldOk st st := ⟨Nat.le_refl _, fun i o _ h => .inl h⟩
theorem oldOk_app (st ex : Store) : OldOk st (st ++ ex) := ⟨by simp, fun i o hi h => .inl (by rwa [List.getElem?_append_left hi] at h)⟩
theorem gc_take {st st' : Store} {d : D} (o : OldOk st st') (b : Bl st.length d) : gc st (.ok (.v d) st') = .ok (.v d) (st'.take st.length) := by
  unfold gc
  simp only [if_pos o, if_pos b]
theorem gc_new {st ex : Store} {d : D} (b : Bl st.length d) : gc st (.ok (.v d) (st ++ ex)) = .ok (.v d) st := by
  rw [gc_take (oldOk_app st ex) b, List.take_left]
theorem gc_newO {st ex : Store} {x : O} (b : OBl st.length x) : gc st (.ok (.o x) (st ++ ex)) = .ok (.o x) st := by
  unfold gc
  simp only [if_pos (oldOk_app st ex), if_pos b, List.take_left]
theorem gc_ref {st ex : Store} {m : Nat} {x : O} (h : (st ++ ex)[m]? = some x) (hm : st.length ≤ m) (b : OBl st.length x) : gc st (.ok (.v (.ref m)) (st ++ ex)) = .ok (.o x) st := by
  unfold gc
  have nb : ¬ Bl st.length (.ref m) := fun z => by
    cases z with
    | ref q => omega
  simp only [if_pos (oldOk_app st ex), if_neg nb, h, if_pos b, List.take_left]
theorem gc_refKeep {st ex : Store} {m : Nat} {x : O} (h : (st ++ ex)[m]? = some x) (b : ¬ OBl st.length x) (hm : st.length ≤ m) : gc st (.ok (.v (.ref m)) (st ++ ex)) = .ok (.v (.ref m)) (st ++ ex) := by
  unfold gc
  have nb : ¬ Bl st.length (.ref m) := fun z => by
    cases z with
    | ref q => omega
  simp only [if_pos (oldOk_app st ex), if_neg nb, h, if_neg b]
theorem gc_same {st : Store} {r : R} : gc st (.ok r st) = .ok r st := by
  have h : gc st (.ok r (st ++ [])) = .ok r (st ++ []) := by
    unfold gc
    simp only [if_pos (oldOk_app st [])]
    cases r with
    | o x =>
      by_cases b : OBl st.length x
      · simp [b]
      · simp [b]
    | v d =>
      simp only
      split
      · simp
      · rename_i nb
        split
        · rename_i m
          have hm : ¬ m < st.length := fun z => nb (.ref z)
          have : (st ++ [])[m]? = none := by simp; omega
          rw [this]
        · rfl
  simpa using h
theorem gc_newO' {st ex : Store} {x : O} (b : ¬ OBl st.length x) : gc st (.ok (.o x) (st ++ ex)) = .ok (.o x) (st ++ ex) := by
  unfold gc
  simp only [if_pos (oldOk_app st ex), if_neg b]

/-! ### loops -/
theorem compL_pure {ok : Store → Prop} {tg : FG} {tt : FB} {elt : FE} {e0 : Env} {st : Store} (hok : ok st) (c : D → Bool) (r : D → D) : ∀ (ds acc : List D),
    (∀ d ∈ ds, ∃ e1, tg d e0 = some e1 ∧ tt e1 st = .ok (c d) st ∧ (c d = true → elt e1 st = .ok (.v (r d)) st)) → acc.length + ds.length ≤ 1000000 →
    compL ok tg tt elt e0 ds acc st = .ok (.o (.lst (acc ++ (ds.filter c).map r))) st
  | [], acc, _, _ => by unfold compL; rw [if_pos hok]; simp
  | d :: ds, acc, h, hl => by
    obtain ⟨e1, h1, h2, h3⟩ := h d List.mem_cons_self
    have ht := fun d hd => h d (List.mem_cons_of_mem _ hd)
    simp only [List.length_cons] at hl
    unfold compL
    rw [if_pos hok, h1]
    simp only [h2, Out.nox_ok, Out.bind]
    cases e : c d with
    | true =>
      simp only [h3 e, Out.nox_ok, Out.bind, if_true]
      rw [if_pos (by omega)]
      simp only [alloc_v]
      rw [compL_pure hok c r ds _ ht (by simp; omega), List.filter_cons_of_pos e]
      simp
    | false =>
      simp only [Bool.false_eq_true, if_false]
      rw [compL_pure hok c r ds _ ht (by omega), List.filter_cons_of_neg (by simp [e])]
theorem compL_ex {ok : Store → Prop} {tg : FG} {tt : FB} {elt : FE} {e0 : Env} (I : Store → Prop) (Pd : D → Prop) (hok : ∀ st, I st → ok st) : ∀ (ds acc : List D) (st : Store),
    (∀ d ∈ ds, ∀ st, I st → ∃ e1 b st1, tg d e0 = some e1 ∧ tt e1 st = .ok b st1 ∧ I st1 ∧ (b = true → ∃ v st2, elt e1 st1 = .ok (.v v) st2 ∧ I st2 ∧ Pd v)) → acc.length + ds.length ≤ 1000000 → I st → (∀ v ∈ acc, Pd v) →
    ∃ out st', compL ok tg tt elt e0 ds acc st = .ok (.o (.lst out)) st' ∧ I st' ∧ (∀ v ∈ out, Pd v) ∧ out.length ≤ acc.length + ds.length
  | [], acc, st, _, _, hi, ha => by
    unfold compL
    rw [if_pos (hok st hi)]
    exact ⟨acc, st, rfl, hi, ha, by simp⟩
  | d :: ds, acc, st, h, hl, hi, ha => by
    obtain ⟨e1, b, st1, h1, h2, h3, h4⟩ := h d List.mem_cons_self st hi
    have ht := fun d hd => h d (List.mem_cons_of_mem _ hd)
    simp only [List.length_cons] at hl
    unfold compL
    rw [if_pos (hok st hi), h1]
    simp only [h2, Out.nox_ok, Out.bind]
    cases b with
    | true =>
      obtain ⟨v, st2, k1, k2, k3⟩ := h4 rfl
      simp only [k1, Out.nox_ok, Out.bind, if_true]
      rw [if_pos (by omega)]
      simp only [alloc_v]
      obtain ⟨out, st', q1, q2, q3, q4⟩ := compL_ex I Pd hok ds (acc ++ [v]) st2 ht (by simp; omega) k2 (fun z hz => by
        rcases List.mem_append.mp hz with z' | z'
        · exact ha z z'
        · rw [List.mem_singleton.mp z']; exact k3)
      exact ⟨out, st', q1, q2, q3, by simp at q4 ⊢; omega⟩
    | false =>
      simp only [Bool.false_eq_true, if_false]
      obtain ⟨out, st', q1, q2, q3, q4⟩ := compL_ex I Pd hok ds acc st1 ht (by omega) h3 ha
      exact ⟨out, st', q1, q2, q3, by simp; omega⟩
/-- without a test: as many as there are -/
theorem compL_all {ok : Store → Prop} {tg : FG} {elt : FE} {e0 : Env} (I : Store → Prop) (Pd : D → Prop) (hok : ∀ st, I st → ok st) : ∀ (ds acc : List D) (st : Store),
    (∀ d ∈ ds, ∀ st, I st → ∃ e1 v st2, tg d e0 = some e1 ∧ elt e1 st = .ok (.v v) st2 ∧ I st2 ∧ Pd v) → acc.length + ds.length ≤ 1000000 → I st → (∀ v ∈ acc, Pd v) →
    ∃ out st', compL ok tg fYes elt e0 ds acc st = .ok (.o (.lst out)) st' ∧ I st' ∧ (∀ v ∈ out, Pd v) ∧ out.length = acc.length + ds.length
  | [], acc, st, _, _, hi, ha => by
    unfold compL
    rw [if_pos (hok st hi)]
    exact ⟨acc, st, rfl, hi, ha, by simp⟩
  | d :: ds, acc, st, h, hl, hi, ha => by
    obtain ⟨e1, v, st2, h1, k1, k2, k3⟩ := h d List.mem_cons_self st hi
    have ht := fun d hd => h d (List.mem_cons_of_mem _ hd)
    simp only [List.length_cons] at hl
    unfold compL
    rw [if_pos (hok st hi), h1]
    simp only [fYes, k1, Out.nox_ok, Out.bind, if_true]
    rw [if_pos (by omega)]
    simp only [alloc_v]
    obtain ⟨out, st', q1, q2, q3, q4⟩ := compL_all I Pd hok ds (acc ++ [v]) st2 ht (by simp; omega) k2 (fun z hz => by
      rcases List.mem_append.mp hz with z' | z'
      · exact ha z z'
      · rw [List.mem_singleton.mp z']; exact k3)
    exact ⟨out, st', q1, q2, q3, by simp at q4 ⊢; omega⟩
theorem forL_inv {ok : Store → Prop} {tg : FG} {body : FS} {e0 : Env} (I : List D → Env → Store → Prop) (hok : ∀ ds env st, I ds env st → ok st ∧ e0.length = env.length)
    (step : ∀ d ds env st, I (d :: ds) env st → ∃ env1, tg d (scope e0 env) = some env1 ∧ ∃ e s, (body env1 st = .next e s ∨ body env1 st = .cont e s) ∧ I ds e s) : ∀ (ds : List D) (env : Env) (st : Store), I ds env st →
    ∃ e s, forL ok tg body e0 ds env st = .next (scope e0 e) s ∧ I [] e s
  | [], env, st, h => by
    unfold forL
    rw [if_pos (hok _ _ _ h)]
    exact ⟨env, st, rfl, h⟩
  | d :: ds, env, st, h => by
    obtain ⟨env1, h1, e, s, h2, h3⟩ := step d ds env st h
    obtain ⟨e', s', q1, q2⟩ := forL_inv I hok step ds e s h3
    refine ⟨e', s', ?_, q2⟩
    unfold forL
    rw [if_pos (hok _ _ _ h), h1]
    rcases h2 with h2 | h2
    · simp only [h2]; exact q1
    · simp only [h2]; exact q1
theorem while_inv {c : FB} {body : FS} {e0 : Env} (I : Env → Store → Prop) (Fin : Env → Store → Prop) (μ : Env → Store → Nat)
    (step : ∀ env st, I env st → (∃ st1, c env st = .ok false st1 ∧ Fin env st1) ∨ ∃ st1 e s, c env st = .ok true st1 ∧ body env st1 = .next e s ∧ e0.length = e.length ∧ I (scope e0 e) s ∧ μ (scope e0 e) s < μ env st) :
    ∀ (k : Nat) (env : Env) (st : Store), I env st → μ env st < k → ∃ e s, whileL c body e0 k env st = .next e s ∧ Fin e s
  | 0, env, st, _, h => absurd h (Nat.not_lt_zero _)
  | k + 1, env, st, hi, hk => by
    rcases step env st hi with ⟨st1, h1, h2⟩ | ⟨st1, e, s, h1, h2, h3, h4, h5⟩
    · refine ⟨env, st1, ?_, h2⟩
      simp [whileL, h1, Out.thenS]
    · obtain ⟨e', s', q1, q2⟩ := while_inv I Fin μ step k (scope e0 e) s h4 (by omega)
      refine ⟨e', s', ?_, q2⟩
      simp only [whileL, h1, Out.thenS, if_true, h2]
      rw [if_pos h3]; exact q1
theorem fWhile_inv {c : FB} {body : FS} (I : Env → Store → Prop) (Fin : Env → Store → Prop) (μ : Env → Store → Nat) {e0 : Env} {st : Store} (h0 : I e0 st)
    (step : ∀ env st, I env st → (∃ st1, c env st = .ok false st1 ∧ Fin env st1) ∨ ∃ st1 e s, c env st = .ok true st1 ∧ body env st1 = .next e s ∧ e0.length = e.length ∧ I (scope e0 e) s ∧ μ (scope e0 e) s < μ env st) :
    ∃ e s, fWhile c body e0 st = .next e s ∧ Fin e s := by
  obtain ⟨e, s, h1, h2⟩ := while_inv I Fin μ step (μ e0 st + 1) e0 st h0 (Nat.lt_succ_self _)
  exact ⟨e, s, fWhile_eq _ h1 (by simp), h2⟩

/-! ### data -/
theorem toP_int {st : Store} {n : Nat} (i : Int) : D.toP st (n + 1) (.int i) = some (.int i) := rfl
theorem mapM_ints {st : Store} {n : Nat} : ∀ L : List Int, (L.map D.int).mapM (D.toP st (n + 1)) = some (L.map PyData.int)
  | [] => rfl
  | i :: L => by
    rw [List.map_cons, List.mapM_cons, mapM_ints L]; rfl
theorem any_ints (s : Int) : ∀ L : List Int, ((L.map PyData.int).any fun z => PyData.eqv z (.int s)) = decide (s ∈ L)
  | [] => rfl
  | i :: L => by
    rw [List.map_cons, List.any_cons, any_ints s L]
    by_cases h : i = s
    · subst h; simp [PyData.eqv]
    · simp [PyData.eqv, h, Ne.symm h]
theorem inP_tup {st : Store} (s : Int) (L : List Int) : inP st (.v (.int s)) (.v (.tup (L.map D.int))) = some (decide (s ∈ L)) := by
  simp only [inP, itemsP, mapM_ints, R.toP, toP_int, Option.map_some, any_ints]
theorem inP_lst {st : Store} (s : Int) (L : List Int) : inP st (.v (.int s)) (.o (.lst (L.map D.int))) = some (decide (s ∈ L)) := by
  simp only [inP, itemsP, seqL, Option.bind_some, mapM_ints, R.toP, toP_int, Option.map_some, any_ints]
theorem inP_ref {st : Store} {n : Nat} (s : Int) (L : List Int) (h : st[n]? = some (.lst (L.map D.int))) : inP st (.v (.int s)) (.v (.ref n)) = some (decide (s ∈ L)) := by
  simp only [inP, itemsP, seqL_ref h, Option.bind_some, mapM_ints, R.toP, toP_int, Option.map_some, any_ints]
theorem inP_dK {st : Store} {n : Nat} {kvs : List (Key × D)} (s : Int) (h : st[n]? = some (.dK kvs)) : inP st (.v (.int s)) (.v (.ref n)) = some (valD kvs (.inl s)).isSome := by
  have e : seqL st (.v (.ref n)) = none := by simp [seqL, h]
  simp only [inP, itemsP, e, Option.bind_none, dictGet, objOf_ref, h, D.key, Option.map_some]
end Fx

set_option Elab.async false
set_option linter.all false
set_option maxRecDepth 100000
set_option maxHeartbeats 4000000
set_option autoImplicit false
/-! Fx, part T: what each construct comes to, one row each. -/
namespace Fx
open PySem PySem.Spec PyProof.Rows L2
theorem gc_eq {st st' : Store} {d : D} (hl : st'.length = st.length) (h : ∀ (i : Nat) (o : O), st'[i]? = some o → st[i]? = some o ∨ OBl st.length o) (b : Bl st.length d) : gc st (.ok (.v d) st') = .ok (.v d) st' := by
  rw [gc_take ⟨by omega, fun i o _ e => h i o e⟩ b, List.take_of_length_le (by omega)]
theorem set_old {st : Store} {n : Nat} {x : O} (b : OBl st.length x) : ∀ (i : Nat) (o : O), (st.set n x)[i]? = some o → st[i]? = some o ∨ OBl st.length o := fun i o e => by
  by_cases h : n = i
  · subst h
    by_cases hl : n < st.length
    · rw [List.getElem?_set_self hl] at e; cases e; exact .inr b
    · rw [List.getElem?_eq_none (by simp; omega)] at e; cases e
  · rw [List.getElem?_set_ne h] at e; exact .inl e
section
variable {env : Fx.Env} {st st1 st2 st3 : Store} {fa fb f fo : FE} {g : FA} {ra rb r ro : R} {d : D} {i : Nat} {ds : List D} {b : Bool}
theorem ev_name (h : env[i]? = some (some d)) : fName i env st = .ok (.v d) st := by simp [fName, h]
theorem ev_c : fC d env st = .ok (.v d) st := rfl
theorem ev_bin {h : F2} (h1 : fa env st = .ok ra st1) (h2 : fb env st1 = .ok rb st2) : fBin h fa fb env st = h ra rb st2 := by
  unfold fBin; rw [h1]; simp only [Out.bind]; rw [h2]
theorem ev_call1 {h : R → Store → Out R} (h1 : fa env st = .ok ra st1) : fCall1 h fa env st = h ra st1 := by
  unfold fCall1; rw [h1]; rfl
theorem ev_nil : fNil env st = .ok [] st := rfl
theorem ev_cons (h1 : f env st = .ok r st1) (h2 : g env (Fx.alloc r st1).2 = .ok ds st2) : fCons f g env st = .ok ((Fx.alloc r st1).1 :: ds) st2 := by
  unfold fCons; rw [h1]; simp only [Out.bind]; rw [h2]
theorem ev_consV (h1 : f env st = .ok (.v d) st1) (h2 : g env st1 = .ok ds st2) : fCons f g env st = .ok (d :: ds) st2 := ev_cons h1 h2
theorem ev_consO {x : O} (h1 : f env st = .ok (.o x) st1) (h2 : g env (st1 ++ [x]) = .ok ds st2) : fCons f g env st = .ok (.ref st1.length :: ds) st2 := ev_cons h1 h2
theorem ev_tup (h1 : g env st = .ok ds st1) (h : ds.length ≤ 1000000) : fTup g env st = .ok (.v (.tup ds)) st1 := by
  unfold fTup; rw [h1]; simp only [Out.bind]; rw [if_pos h]
theorem ev_lst (h1 : g env st = .ok ds st1) (h : ds.length ≤ 1000000) : fLst g env st = .ok (.o (.lst ds)) st1 := by
  unfold fLst; rw [h1]; simp only [Out.bind]; rw [if_pos h]
theorem ev_true (h1 : fa env st = .ok (.v (.bl b)) st1) : fTrue fa env st = .ok b st1 := by
  unfold fTrue; rw [h1]; rfl
theorem ev_if {c : FB} (h1 : c env st = .ok b st1) : fIf c fa fb env st = if b = true then fa env st1 else fb env st1 := by
  unfold fIf; rw [h1]; rfl
theorem ev_and {c c' : FB} (h1 : c env st = .ok b st1) : fAnd c c' env st = if b = true then c' env st1 else .ok false st1 := by
  unfold fAnd; rw [h1]; rfl
theorem ev_or {c c' : FB} (h1 : c env st = .ok b st1) : fOr c c' env st = if b = true then .ok true st1 else c' env st1 := by
  unfold fOr; rw [h1]; rfl
theorem ev_not {c : FB} (h1 : c env st = .ok b st1) : fNot c env st = .ok (!b) st1 := by
  unfold fNot; rw [h1]; rfl
theorem ev_call {F : FF} (h1 : g env st = .ok ds st1) (h2 : F ds st1 = .ok r st2) : fCall F g env st = gc st (.ok r st2) := by
  unfold fCall; rw [h1]; simp only [Out.bind]; rw [h2]
theorem ev_callS {F : FF} (h1 : g env st = .ok ds st) (h2 : F ds st = .ok r st) : fCall F g env st = .ok r st := by rw [ev_call h1 h2, gc_same]
theorem ev_meth1 {h : F3} {xs : List D} (h1 : fo env st = .ok ro st1) (hs : seqL st1 ro = some xs) (h2 : fa env st1 = .ok ra st2) : fMeth1 h fo fa env st = h ro ra st2 := by
  unfold fMeth1; rw [h1]; simp only [Out.bind, hs, h2]
theorem ev_meth0 {h : R → Store → Out R} {xs : List D} (h1 : fo env st = .ok ro st1) (hs : seqL st1 ro = some xs) : fMeth0 h fo env st = h ro st1 := by
  unfold fMeth0; rw [h1]; simp only [Out.bind, hs]
theorem ev_it (h1 : fa env st = .ok ra st1) : fIt fa env st = sqOf ra st1 := by
  unfold fIt; rw [h1]; rfl
theorem ev_comp {fi : FI} {q : Sq} {tg : FG} {tt : FB} {el : FE} {own : List Nat} (h1 : fi env st = .ok q st1) : fComp fi tg tt el own env st = compL q.ok tg tt el (wipeE env own) q.xs [] st1 := by
  unfold fComp; rw [h1]; rfl
theorem ev_rng1 {j : Int} (h1 : fa env st = .ok (.v (.int j)) st1) (h : j < 1000000000 ∧ -1000000000 < j) : fRng1 fa env st = .ok ⟨rngD 0 j.toNat, Sq.any⟩ st1 := by
  unfold fRng1; rw [h1]; simp only [Out.bind]; rw [if_pos h]
theorem ev_listRng1 {j : Int} (h1 : fa env st = .ok (.v (.int j)) st1) (h : 0 ≤ j ∧ j < 1000000) : fListRng1 fa env st = .ok (.o (.lst (rngD 0 j.toNat))) st1 := by
  unfold fListRng1; rw [h1]; simp only [Out.bind]; rw [if_pos h]
-- statements
variable {s1 s2 : FS} {k : Nat} {o : OutS}
theorem ex_seq {e1 : Fx.Env} (h1 : s1 env st = .next e1 st1) : fSeq s1 s2 env st = s2 e1 st1 := by
  unfold fSeq; rw [h1]; rfl
theorem ex_seqR (h1 : s1 env st = .ret r st1) : fSeq s1 s2 env st = .ret r st1 := by
  unfold fSeq; rw [h1]; rfl
theorem ex_expr (h1 : fa env st = .ok r st1) : fExpr fa env st = .next env st1 := by
  unfold fExpr; rw [h1]; rfl
theorem ex_ret (h1 : fa env st = .ok r st1) : fRet fa env st = .ret r st1 := by
  unfold fRet; rw [h1]; rfl
theorem ex_if {c : FB} (h1 : c env st = .ok b st1) : fIfS c s1 s2 env st = if b = true then s1 env st1 else s2 env st1 := by
  unfold fIfS; rw [h1]; rfl
theorem ex_set (h1 : fa env st = .ok (.v d) st1) : fSet k fa env st = .next (env.set k (some d)) st1 := by
  unfold fSet; rw [h1]; rfl
theorem ex_setO {x : O} (h1 : fa env st = .ok (.o x) st1) : fSet k fa env st = .next (env.set k (some (.ref st1.length))) (st1 ++ [x]) := by
  unfold fSet; rw [h1]; rfl
theorem ex_par {i j : Nat} {d e : D} (h1 : g env st = .ok [d, e] st1) : fPar i j g env st = .next ((env.set i (some d)).set j (some e)) st1 := by
  unfold fPar; rw [h1]; rfl
theorem ex_for {fi : FI} {tg : FG} {body : FS} {q : Sq} (h1 : fi env st = .ok q st1) : fFor fi tg body env st = forL q.ok tg body env q.xs env st1 := by
  unfold fFor; rw [h1]; rfl
theorem ex_put {f fo fi : FE} {k : R} (h1 : f env st = .ok (.v d) st1) (h2 : fo env st1 = .ok ro st2) (h3 : fi env st2 = .ok k st3) {st4 : Store} (h4 : Fx.putAt ro k d st3 = some st4) : fPut f fo fi env st = .next env st4 := by
  unfold fPut; rw [h1]; simp only [Out.thenS, alloc_v]; rw [h2]; simp only; rw [h3]; simp only [h4]
theorem app_int {n : Nat} {W : List Int} (v : Int) (h : st[n]? = some (.lst (W.map .int))) (hl : W.length < 1000000) : gAppend (.v (.ref n)) (.v (.int v)) st = .ok (.v .non) (st.set n (.lst ((W ++ [v]).map .int))) := by
  unfold gAppend
  simp only [alloc_v, lstAt, h]
  rw [if_pos (by simpa using hl)]
  simp
theorem pop_last {n : Nat} {xs : List D} (h : st[n]? = some (.lst (xs ++ [d]))) : gPop (.v (.ref n)) st = .ok (.v d) (st.set n (.lst xs)) := by
  unfold gPop
  simp only [lstAt, h]
  have e : (xs ++ [d])[(xs ++ [d]).length - 1]? = some d := by simp
  rw [e]
  simp
theorem ix_tup {xs : List D} {i : Nat} (h : xs[i]? = some d) : gIx (.v (.tup xs)) (.v (.int (i : Nat))) st = .ok (.v d) st := by
  have hl : i < xs.length := (List.getElem?_eq_some_iff.mp h).1
  have e : L2.atI xs ((i : Nat) : Int) = some d := by
    unfold L2.atI L2.ixN
    rw [if_pos (by omega), if_pos (by omega)]
    simpa using h
  unfold gIx idx
  simp only [e]
theorem ix_lst {xs : List D} {i n : Nat} (hn : st[n]? = some (.lst xs)) (h : xs[i]? = some d) : gIx (.v (.ref n)) (.v (.int (i : Nat))) st = .ok (.v d) st := by
  have hl : i < xs.length := (List.getElem?_eq_some_iff.mp h).1
  have e : L2.atI xs ((i : Nat) : Int) = some d := by
    unfold L2.atI L2.ixN
    rw [if_pos (by omega), if_pos (by omega)]
    simpa using h
  unfold gIx idx
  simp only [seqL_ref hn, e]
end
end Fx

set_option Elab.async false
set_option linter.all false
set_option maxRecDepth 100000
set_option maxHeartbeats 4000000
set_option autoImplicit false
/-! Fx, part U: is of bools, min of two, sum of a tuple of small ints. -/
namespace Fx
open PySem PySem.Spec PyProof.Rows L2

def gIsB : F2 := fun ra rb st => match ra, rb with
  | .v (.bl a), .v (.bl b) => .ok (.v (.bl (decide (a = b)))) st
  | _, _ => .stuck
def gNotB : F2 := fun ra rb st => match ra, rb with
  | .v (.bl a), .v (.bl b) => .ok (.v (.bl (!decide (a = b)))) st
  | _, _ => .stuck
section
variable {X : Cx} {W : WX} {p pos : Pos} {a b : Expr} {fa fb : FE}
theorem op2_isB : Op2 X rIsB gIsB := by
  intro W σ H H0 H0' φ st ra rb x y Q s rx ry h
  unfold gIsB at h
  split at h
  · exact ⟨_, _, bl_ok rx, bl_ok ry, of_val s (.bl _) h⟩
  · exact h.elim
theorem op2_notB : Op2 X rNotB gNotB := by
  intro W σ H H0 H0' φ st ra rb x y Q s rx ry h
  unfold gNotB at h
  split at h
  · exact ⟨_, _, bl_ok rx, bl_ok ry, of_val s (.bl _) h⟩
  · exact h.elim
theorem qIsB (ha : SE X W a fa) (hb : SE X W b fb) : SE X W (.Compare a [.Is] [b] pos) (fBin gIsB fa fb) := se_cmp op_isBl op2_isB (nomark _) ha hb
theorem qIsNotB (ha : SE X W a fa) (hb : SE X W b fb) : SE X W (.Compare a [.IsNot] [b] pos) (fBin gNotB fa fb) := se_cmp op_notBl op2_notB (nomark _) ha hb
theorem tIsB (ha : SE X W a fa) (hb : SE X W b fb) : SB X W (.Compare a [.Is] [b] pos) (fTrue (fBin gIsB fa fb)) := sb_cmp op_isBl op2_isB (nomark _) ha hb
theorem tIsNotB (ha : SE X W a fa) (hb : SE X W b fb) : SB X W (.Compare a [.IsNot] [b] pos) (fTrue (fBin gNotB fa fb)) := sb_cmp op_notBl op2_notB (nomark _) ha hb
/-- min(a, b) -/
def fMin2 (g : FA) : FE := fun env st => (g env st).bind fun ds st1 => match ds with
  | [.int i, .int j] => .ok (.v (.int (if j < i then j else i))) st1
  | _ => .stuck
theorem cMin2 {g : FA} (hc : X.calm = true) (hg : Gl X "min") (hm : X.mg "min" = none) (ha : SA X W [a, b] g) (he : starEach (a :: [b]) X.env = (false, eval a X.env) :: starEach [b] X.env := by rfl) (hpl : (backTo pos (starEach [b] X.env)).any (·.1) = false := by rfl) :
    SE X W (.Call (.Name "min" p) [a, b] [] pos) (fMin2 g) := by
  refine pe_imp (pe_callB (call_min2 hc) hg hm (by decide +kernel) ha (by decide) (by decide) he hpl) fun σ H Q ⟨env, st, φ, a, q⟩ => ?_
  refine tA_seq a q fun ds st1 H1 φ1 vs e1 a1 rv q1 => ?_
  split at q1
  · rename_i i j
    cases rv with
    | cons r1 t =>
      cases t with
      | cons r2 t =>
        cases t
        cases r1
        cases r2
        exact ⟨i, j, rfl, of_val a1.rs (.int _) q1⟩
  · exact q1.elim
end
/-! ### sum -/
def rSumT (K : PySem.W.Frag) : List V → Hp → VK → Prop := fun vs H Q => ∃ (a : Addr) (ns : List Int), vs = [V.ref a] ∧ SqT K H a (ns.map V.int) ∧ (ns.length < 1000 ∧ ∀ v ∈ ns, 0 ≤ v ∧ v < 1000) ∧ Q (.int ns.sum) H
theorem preSum_take (ns : List Int) : ∀ k : Nat, k ≤ ns.length → preSum (fun i => ns.getD i 0) k = (ns.take k).sum
  | 0, _ => by simp [preSum]
  | k + 1, h => by
    have e : ns[k]? = some ns[k] := List.getElem?_eq_getElem (by omega)
    rw [preSum, preSum_take ns k (by omega), List.take_add_one, e, List.sum_append]
    simp [List.getD, e]
theorem take_bnd : ∀ (ns : List Int), (∀ v ∈ ns, 0 ≤ v ∧ v < 1000) → 0 ≤ ns.sum ∧ ns.sum ≤ 1000 * (ns.length : Int)
  | [], _ => by simp
  | a :: ns, h => by
    have := take_bnd ns fun v hv => h v (List.mem_cons_of_mem _ hv)
    have := h a List.mem_cons_self
    simp only [List.sum_cons, List.length_cons]
    omega
theorem cr_sumT {X : Cx} (hc : X.calm = true) : CallR X (.builtin "sum") (rSumT X.K) := by
  intro pins s σ H vs us Q I r h
  obtain ⟨a, ns, rfl, hs, ⟨hl, hb⟩, q⟩ := h
  obtain ⟨its, rv, p, _⟩ := I.tuple hs
  rw [Vals.ref1 r]
  have hlen := rv.length
  simp only [List.length_map] at hlen
  refine call_sum_walk (wpAny_pyIter_tuple (show s.heap.IsTuple a its.toArray from p) ?_)
  have hne : a ≠ s.heap.objs.size := by obtain ⟨o, ho, _⟩ := id p; exact Nat.ne_of_lt (Heap.lt_size ho)
  refine ⟨s.heap.objs.size, _, _, _, _, _, fun i => ns.getD i 0, rfl, Walks.tuple (A := X.A.in1) (show X.A.in1.handled = none from I.ok.hd hc) s.heap.objs.size a hne its.toArray, ⟨⟨_, Heap.get?_push_size _ rfl, rfl, rfl⟩, ?_⟩, ?_, ?_, ?_, ?_⟩
  · obtain ⟨o, ho, h2⟩ := id p
    exact ⟨o, Heap.get?_push_of_some _ ho, h2⟩
  · intro b hb
    obtain ⟨o, ho, _⟩ := id p
    have e : b = s.heap.objs.size ∨ b = a := by simpa using hb
    show b < (s.heap.push _).objs.size
    rw [Heap.size_push]
    rcases e with e | e
    · rw [e]; exact Nat.lt_succ_self _
    · rw [e]; exact Nat.lt_succ_of_lt (Heap.lt_size ho)
  · intro i v hv
    have hv' : its[i]? = some v := by simpa using hv
    have hi : i < ns.length := by rw [hlen]; exact (List.getElem?_eq_some_iff.mp hv').1
    have e1 : (ns.map V.int)[i]? = some (.int (ns.getD i 0)) := by
      rw [List.getElem?_map, List.getElem?_eq_getElem hi]; simp [List.getD, List.getElem?_eq_getElem hi]
    obtain ⟨u, hu, ru⟩ := rv.get e1
    rw [hv'] at hu; cases hu
    obtain ⟨t, rfl⟩ := ru
    exact ⟨t, rfl⟩
  · intro j hj
    have hj' : j < ns.length := by rw [hlen]; simpa using hj
    have b1 : 0 ≤ ns.getD j 0 ∧ ns.getD j 0 < 1000 := by
      simp only [List.getD, List.getElem?_eq_getElem hj', Option.getD_some]
      exact hb _ (List.getElem_mem hj')
    have b2 := take_bnd (ns.take (j + 1)) fun v hv => hb v (List.mem_of_mem_take hv)
    have b3 : (ns.take (j + 1)).length ≤ 1000 := by rw [List.length_take]; omega
    refine ⟨⟨?_, ?_⟩, ?_, ?_⟩
    · show -(2 ^ 63) ≤ ns.getD j 0; omega
    · show ns.getD j 0 < 2 ^ 63; omega
    · rw [preSum_take ns (j + 1) hj']; omega
    · rw [preSum_take ns (j + 1) hj']; omega
  · intro h' tk t' hk
    have e : preSum (fun i => ns.getD i 0) its.toArray.size = ns.sum := by
      rw [preSum_take ns _ (by simp [hlen]), List.take_of_length_le (by simp [hlen])]
    rw [e]
    refine ⟨.int ns.sum, H, I.kept (t' := tk) fun b o e => hk b o ?_ (Heap.get?_push_of_some _ e), ⟨_, rfl⟩, q⟩
    intro hm
    have : b = s.heap.objs.size := by simpa using hm
    exact absurd (Heap.lt_size e) (by rw [this]; exact Nat.lt_irrefl _)
def smallI (ns : List Int) : Bool := decide (ns.length < 1000) && ns.all fun v => decide (0 ≤ v ∧ v < 1000)
def gSumT (r : R) (st : Store) : Out R := match r with
  | .v (.tup xs) => match xs.mapM D.asI with
    | some ns => if smallI ns = true then .ok (.v (.int ns.sum)) st else .stuck
    | none => .stuck
  | _ => .stuck
theorem cr1_sumT {X : Cx} : Cr1 X (rSumT X.K) gSumT := by
  intro W σ H H0 φ st ra x Q s rx h
  unfold gSumT at h
  split at h
  · rename_i xs
    split at h
    · rename_i ns e
      split at h
      · rename_i c
        obtain ⟨a, vs, rfl, q, t⟩ := tup_ok rx
        obtain ⟨e1, _⟩ := asI_ok t e
        subst e1
        unfold smallI at c
        rw [Bool.and_eq_true, List.all_eq_true] at c
        exact ⟨a, ns, rfl, SqT.of q, ⟨of_decide_eq_true c.1, fun v hv => of_decide_eq_true (c.2 v hv)⟩, of_val (M := X.md) s (.int _) h⟩
      · exact h.elim
    · exact h.elim
  · exact h.elim
theorem cSum {X : Cx} {W : WX} {p pos : Pos} {a : Expr} {fa : FE} (hc : X.calm = true) (hg : Gl X "sum") (hm : X.mg "sum" = none) (ha : SE X W a fa) (he : starEach (a :: []) X.env = (false, eval a X.env) :: starEach [] X.env := by rfl) (hpl : (backTo pos (starEach [] X.env)).any (·.1) = false := by rfl) :
    SE X W (.Call (.Name "sum" p) [a] [] pos) (fCall1 gSumT fa) := se_callB (cr_sumT hc) cr1_sumT hg hm (by decide +kernel) ha (by decide) (by decide) he hpl
end Fx

set_option Elab.async false
set_option linter.all false
set_option maxRecDepth 100000
set_option maxHeartbeats 4000000
set_option autoImplicit false
/-! Fx, part Ze: set(list of ints), sorted of sets of ints, sorted of lists of tuples of ints. -/
namespace Fx
open PySem PySem.Spec PyProof.Rows L2

section
variable {P : Program} {w : World} {A : Around} {E : Value → Shared → Prop} {s : Shared}
abbrev bareSet (w : World) : Obj := { cls := .type "set", dict := none, data := .set #[] 0 (.fresh 0 0 (!w.params.followText "set-order")) }
set_option maxHeartbeats 3200000 in
/-- set(xs), xs a list of ints -/
theorem set_of_ints {l : Addr} {xs : Array Value} (ks : List Int) {Q : Value → Shared → Prop} (calm : A.handled = none) (at_ : s.heap.IsList l xs) (are : IntsAre xs.toList ks) (few : ks.length + 1 < scanBound)
    (fin : ∀ (g : Heap) (t c : Nat), SetR w g s.heap.objs.size (fun j => decide (j ∈ ks)) c → c ≤ ks.length → (∀ b o, s.heap.get? b = some o → g.get? b = some o) → Q (.ref s.heap.objs.size) { s with heap := g, toks := t }) :
    wpAny (model P w) A (call (.type "set") [.ref l]) Q E s := by
  have size_eq : xs.size = ks.length := (Array.length_toList (xs := xs)).symm.trans are.length
  obtain ⟨c, tl, hmro⟩ := F.called_set.mro
  have m1 := F.called_set.made
  have m2 := F.called_set.sub
  refine wpAny_call (codeAny_of_tree (show wpAny _ _ (callAny (.type "set") _) _ _ _ from ?_))
  refine wpAny_pure ⟨Code.quiet_builtin _ (by decide +kernel),
    codeAny_builtin F.entry_type_call ?_⟩
  rw [Around.under_plain
    (weight_type_call_type "set" [.ref l] []) rfl]
  have m3 := F.called_set.notType
  have m4 := F.called_set.canCreate
  have m5 := F.typeCall_set_1 (.ref l)
  repeat
    (any_goals (first | assumption | wp_step))
  refine codeAny_mono (code_set_led1 (.ref l) (E := E) (Q₁ := fun ob s1 => ob = .ref s.heap.objs.size ∧ s1 = { s with heap := s.heap.push (bareSet w) }) ⟨rfl, rfl⟩) fun r s1 back => ?_
  cases r with
  | error e => exact back
  | ok fl =>
    cases fl with
    | ret ob =>
      obtain ⟨rfl, rfl⟩ := back
      have atS : (s.heap.push (bareSet w)).get? s.heap.objs.size = some (bareSet w) := Heap.get?_push_size _ rfl
      have isS : Shared.TypeIs { s with heap := s.heap.push (bareSet w) } (.ref s.heap.objs.size) "set" := ⟨_, atS, rfl⟩
      have i1 := F.called_set.init.lookup
      have i2 := F.called_set.init.bind (.ref s.heap.objs.size)
      repeat
        (any_goals (first | assumption | wp_step))
      refine codeAny_mono (codeAny_call_builtin (R := wants (fun r s2 => r = .none ∧ ∃ g t c, s2 = { s with heap := g, toks := t } ∧ SetR w g s.heap.objs.size (fun j => decide (j ∈ ks)) c ∧ c ≤ ks.length ∧ (∀ b o, s.heap.get? b = some o → g.get? b = some o)) E)
        F.called_set.init.plain F.entry_set_init (check_set_init_1 isS ?_)) fun r2 s2 back2 => ?_
      · obtain ⟨ol, hol, hcl, nl, hdl⟩ := at_
        obtain ⟨oc, od, odt, osl⟩ := ol
        simp only at hcl hdl
        subst hcl
        subst hdl
        have hol2 : (s.heap.push (bareSet w)).get? l = some { cls := .type "list", dict := od, data := .seq xs nl, slots := osl } := Heap.get?_push_of_some _ hol
        have k1 := F.sub_list_set
        have k2 := F.sub_list_frozenset
        have k3 : (Value.type "list" == Value.type "dict") = false := by decide
        have there : (s.heap.push (bareSet w)).IsList l xs := ⟨_, hol2, rfl, nl, rfl⟩
        unfold Builtin.«set.__init__» noKeywords Builtin.Frozenset.updateFrom
        generalize hIt : pyIter = IT
        wp_walk
        subst hIt
        refine wpAny_pyIter_list there ?_
        refine wpAny_bind (wpAny_runValue ?_)
        have below : l < s.heap.objs.size := Heap.lt_size hol
        have calm3 : A.in1.in1.in1.handled = none := by simp [calm]
        have ne1 : l ≠ (s.heap.push (bareSet w)).objs.size := by rw [Heap.size_push]; exact Nat.ne_of_lt (Nat.lt_succ_of_lt below)
        have nf : s.heap.objs.size ∉ [(s.heap.push (bareSet w)).objs.size, l] := by
          rw [Heap.size_push]
          intro z
          simp only [List.mem_cons, List.not_mem_nil, or_false] at z
          rcases z with z | z
          · exact absurd z (Nat.ne_of_lt (Nat.lt_succ_self _))
          · exact absurd z (Nat.ne_of_gt below)
        have vals : ∀ (i : Nat) (v : Value), xs[i]? = some v → ∃ k t, ks[i]? = some k ∧ v = .int k t := fun i v hv => by
          have hi : i < ks.length := by rw [← size_eq]; exact (Array.getElem?_eq_some_iff.mp hv).1
          obtain ⟨t, e⟩ := PyProof.Rows.IntsAre.int_at are i v (by rw [Array.getElem?_toList]; exact hv)
          exact ⟨ks[i], t, List.getElem?_eq_getElem hi, by rw [e, List.getD_eq_getElem?_getD, List.getElem?_eq_getElem hi]; rfl⟩
        refine set_update_ints ((Walks.list calm3 _ l ne1 xs).toS) s.heap.objs.size nf ks size_eq few vals (xs.size - 0) 0 _ (by omega) (Nat.zero_le _) ⟨⟨_, Heap.get?_push_size _ rfl, rfl, rfl⟩, there.push _⟩ ⟨0, Nat.le_refl 0, setR_new_at ?_⟩ ?_
        · exact Heap.get?_push_of_some _ atS
        · intro s' c' hm hc' hS'
          obtain ⟨g, gs, dr, tk, os⟩ := s'
          have e1 : gs = s.gens := hm.gens
          have e2 : dr = s.drawn := hm.drawn
          have e3 : os = s.os := hm.os
          subst e1
          subst e2
          subst e3
          refine wpAny_pure (show wpAny _ _ (ret Value.none) _ _ _ from ?_)
          refine wpAny_pure ⟨rfl, g, tk, c', rfl, hS', by omega, fun b o e => ?_⟩
          have b0 : b < s.heap.objs.size := Heap.lt_size e
          refine hm.heap b o (fun z => ?_) (Heap.get?_push_of_some _ (Heap.get?_push_of_some _ e))
          rw [Heap.size_push] at z
          simp only [List.mem_cons, List.not_mem_nil, or_false] at z
          rcases z with z | z
          · exact absurd z (Nat.ne_of_lt b0)
          · exact absurd z (Nat.ne_of_lt (Nat.lt_succ_of_lt b0))
      · cases r2 with
        | error e => exact back2
        | ok fl2 =>
          cases fl2 with
          | ret r =>
            obtain ⟨rfl, g, t, c', rfl, q1, q2, q3⟩ := back2
            repeat
              (any_goals (first | assumption | wp_step))
            exact fin _ _ _ q1 q2 q3
          | _ => exact back2.elim
    | _ => exact back.elim
end
theorem nodup_le {α : Type} [DecidableEq α] : ∀ (l m : List α), l.Nodup → (∀ x ∈ l, x ∈ m) → l.length ≤ m.length
  | [], _, _, _ => Nat.zero_le _
  | x :: l, m, hn, h => by
    have hx := h x List.mem_cons_self
    obtain ⟨n1, n2⟩ := List.nodup_cons.mp hn
    have ih := nodup_le l (m.erase x) n2 fun y hy => (List.mem_erase_of_ne (fun e => n1 (by rw [← e]; exact hy))).mpr (h y (List.mem_cons_of_mem _ hy))
    rw [List.length_erase_of_mem hx] at ih
    have := List.length_pos_of_mem hx
    simp only [List.length_cons]; omega
/-- set(xs) of ints as a rule -/
def rSetInts (K : PySem.W.Frag) (w : World) : List V → Hp → VK → Prop := fun xs H Q => ∃ (l : Addr) (ks : List Int), xs = [V.ref l] ∧ SqL K H l (ks.map V.int) ∧ ks.length ≤ 4000 ∧ ∀ a c, H a = none → c = (srtU ltI ks).length → Q (.ref a) (upd H a (SetO w a (fun j => decide (j ∈ ks)) c))
theorem srtU_nodup (ks : List Int) : (srtU ltI ks).Nodup := (srtU_pw sto_int ks).imp fun {a b} h e => by
  subst e; rw [sto_int.irr] at h; cases h
theorem cr_setInts {X : Cx} (hc : X.calm = true) : CallR X (.type "set") (rSetInts X.K X.w) := by
  intro pins s σ H xs us Q I r h
  obtain ⟨l, ks, rfl, hl, hn, q⟩ := h
  rw [Vals.ref1 r]
  obtain ⟨its, rv, pl, hz⟩ := I.list hl
  refine set_of_ints ks (I.ok.hd hc) pl.isList (by simpa using rv.ints) (by unfold scanBound; omega) fun g t c R hc k => ?_
  refine ⟨.ref s.heap.objs.size, upd H s.heap.objs.size (SetO X.w s.heap.objs.size (fun j => decide (j ∈ ks)) c), I.laid (t' := t) k (Nat.le_refl _) (setO_new R), rfl, q _ c (I.hok.fresh (Nat.le_refl _)) ?_⟩
  obtain ⟨o, es, ep, tb, _, _, _, _, nd, mem, _, _, hz, _⟩ := R
  have m1 : ∀ k, k ∈ es.toList.map keyOf ↔ k ∈ srtU ltI ks := fun k => by rw [← mem k, srtU_mem]; simp
  have l1 := nodup_le _ _ nd fun k hk => (m1 k).mp hk
  have l2 := nodup_le _ _ (srtU_nodup ks) fun k hk => (m1 k).mpr hk
  have e1 : (es.toList.map keyOf).length = es.size := by rw [List.length_map, Array.length_toList]
  rw [e1] at l1 l2
  omega

/-! ### lists of tuples of ints in order -/
section
variable {prog : Program} {w : World} {A : Around} {E : Value → Shared → Prop} {s : Shared}
theorem kat_tups {b : Bool} : ∀ {xs ys : List Value} {ns ms : List Int} (i : Nat) {Q : Bool → Shared → Prop} {s : Shared}, IntsAre xs ns → IntsAre ys ms → Q (lexB ns ms) s → PySem.W.KatLex prog w A b (decide (xs.length < ys.length)) Q (xs.zip ys) i s
  | [], [], _, _, i, Q, s, .nil, .nil, h => PySem.W.kat_nil (by simpa [lexB] using h)
  | [], _ :: ys, _, _, i, Q, s, .nil, .cons _ _ _, h => PySem.W.kat_nil (by simpa [lexB] using h)
  | _ :: xs, [], _, _, i, Q, s, .cons _ _ _, .nil, h => PySem.W.kat_nil (by simpa [lexB] using h)
  | _ :: xs, _ :: ys, _, _, i, Q, s, .cons p t hx, .cons q u hy, h => by
    show PySem.W.KatLex prog w A b (decide (xs.length + 1 < ys.length + 1)) Q ((Value.int p t, Value.int q u) :: xs.zip ys) i s
    rw [show decide (xs.length + 1 < ys.length + 1) = decide (xs.length < ys.length) from decide_eq_decide.mpr (by omega)]
    refine PySem.W.kat_cons (wpAny_eqBool_int ?_)
    by_cases e : p = q
    · subst e
      rw [beq_self_eq_true]
      simp only [lexB, if_true] at h
      exact PySem.W.kat_yes (kat_tups (i + 1) hx hy h)
    · rw [beq_eq_false_iff_ne.mpr e]
      simp only [lexB, if_neg e] at h
      exact PySem.W.kat_no (TS.oneLt_ints _ h)
theorem firsts_any {h : Heap} {k : Value → List Int} : ∀ vs : List Value, (∀ v ∈ vs, TS.TupInts h v (k v) ∧ k v ≠ []) → ∃ fs, PySem.W.KatTups h vs fs ∧ fs.length = vs.length ∧ ∀ f, f ∈ fs → ∃ n t, f = Value.int n t
  | [], _ => ⟨[], PySem.W.KatTups.nil, rfl, fun f hf => by simp at hf⟩
  | v :: vs, x => by
    obtain ⟨fs, kt, hl, hi⟩ := firsts_any vs fun u hu => x u (List.mem_cons_of_mem _ hu)
    obtain ⟨⟨a, xs, rfl, ⟨o, ho, hc, n, hdt⟩, i⟩, hn⟩ := x v List.mem_cons_self
    cases hx : xs.toList with
    | nil =>
      rw [hx] at i
      cases hk : k (.ref a) with
      | nil => exact absurd hk hn
      | cons _ _ => rw [hk] at i; cases i
    | cons y ys =>
      obtain ⟨m, t, hy⟩ := i.all y (by rw [hx]; exact List.mem_cons_self)
      refine ⟨y :: fs, PySem.W.KatTups.cons ho hc hdt ?_ kt, by simp [hl], fun f hf => ?_⟩
      · have z := congrArg (fun l : List Value => l[0]?) hx
        simpa using z
      · rcases List.mem_cons.mp hf with rfl | hf
        · exact ⟨m, t, hy⟩
        · exact hi f hf
theorem swo_of {α β : Type} {lt : α → α → Bool} (O : STO lt) (k : β → α) : SrtO.Swo fun x y => lt (k x) (k y) := by
  refine ⟨fun x y h => O.asy h, fun x y z h1 h2 => ?_⟩
  cases h : lt (k z) (k x) with
  | false => rfl
  | true =>
    cases e1 : lt (k x) (k y) with
    | true => have := O.tr _ _ _ h e1; rw [h2] at this; cases this
    | false =>
      have e := O.tot _ _ e1 h1
      rw [e, h2] at h; cases h
theorem tups_sortable {a : Addr} {vs : List Value} {k : Value → List Int} (h0 : 0 < vs.length) (hp : ∀ v ∈ vs, TS.TupInts s.heap v (k v) ∧ k v ≠ []) (ha : ∀ o, s.heap.get? a = some o → o.cls ≠ .type "tuple") : SrtO.SortableO prog w A s a vs fun v u => lexB (k v) (k u) := by
  intro h' keep
  have hp' : ∀ v ∈ vs, TS.TupInts h' v (k v) ∧ k v ≠ [] := fun v hm => ⟨(hp v hm).1.keeps fun b o e c => keep b o (fun z => by subst z; exact ha o e c) e, (hp v hm).2⟩
  obtain ⟨fs, h1, h2, h3⟩ := firsts_any vs hp'
  refine ⟨tuples' true, fun Q E hq => ?_, fun p q hm hm' => ?_⟩
  · refine PySem.W.kat_kind (T := .type "int") h1 (by omega) (fun f hm => ?_) (by rfl) ?_
    · obtain ⟨x, t, rfl⟩ := h3 f hm
      exact PySem.W.Looks.now
    · have e : (Value.type "int" != Value.type "tuple") = true := by first | decide +kernel | rfl | decide
      rw [e]
      exact hq
  · obtain ⟨a1, xs, e1, ⟨o1, ho1, hc1, n1, hd1⟩, i1⟩ := (hp' _ hm).1
    obtain ⟨a2, ys, e2, ⟨o2, ho2, hc2, n2, hd2⟩, i2⟩ := (hp' _ hm').1
    show wpAny (model prog w) A (keyLt' (tuples' true) p.1 q.1) (fun r s' => s' = { s with heap := h' } ∧ r = lexB (k p.1) (k q.1)) (fun _ _ => False) { s with heap := h' }
    rw [e1] at i1
    rw [e2] at i2
    rw [e1, e2]
    refine PySem.W.kat_lt ho1 hd1 ho2 hd2 ?_
    have := kat_tups (prog := prog) (w := w) (A := A) (b := true) 0 (Q := fun r s' => s' = { s with heap := h' } ∧ r = lexB (k (.ref a1)) (k (.ref a2))) (s := { s with heap := h' }) i1 i2 ⟨rfl, rfl⟩
    rw [Array.length_toList, Array.length_toList] at this
    exact this
end
/-- sorted(xs), xs a list of tuples of ints, none of them empty -/
def rSortTs (K : PySem.W.Frag) : List V → Hp → VK → Prop := fun vs H Q => ∃ (a : Addr) (xs : List V) (k : V → List Int), vs = [V.ref a] ∧ SqL K H a xs ∧ (∀ x ∈ xs, TupI K H x (k x) ∧ k x ≠ []) ∧
  ∀ (ys : List V) (p : Addr), ys.Perm xs → (ys.map k).Pairwise (fun x y => lexB y x = false) → H p = none → Q (.ref p) (upd H p (.lst ys))
theorem cr_sortTs {X : Cx} : CallR X (.builtin "sorted") (rSortTs X.K) := by
  intro pins s σ H vs us Q I r h
  obtain ⟨a, xs, k, rfl, hs, hx, q⟩ := h
  obtain ⟨its, rv, hl, hz⟩ := I.list hs
  rw [Vals.ref1 r]
  obtain ⟨e1, e2⟩ := refs_back rv fun x m => by
    obtain ⟨⟨t, e, _⟩, _⟩ := hx x m
    exact ⟨t, e⟩
  have hp : ∀ v ∈ its, TS.TupInts s.heap v (k (backV v)) ∧ k (backV v) ≠ [] := fun v hv => by
    obtain ⟨t, rfl⟩ := e2 v hv
    obtain ⟨⟨t', e, ht⟩, hn⟩ := hx (V.ref t) (by rw [e1]; exact List.mem_map.mpr ⟨_, hv, rfl⟩)
    cases e
    exact ⟨tupI_raw I ht, hn⟩
  refine SrtO.sorted_ord (swo_of sto_lex fun v => k (backV v)) hl.isList (by rw [← rv.length]; exact hz) (fun h2 h1 b hb kk => ?_) fun out hs hb => ?_
  · refine tups_sortable (s := { s with heap := h1 }) (by omega) (fun v hv => ⟨(hp v hv).1.keeps fun b o e _ => (kk b o e).2, (hp v hv).2⟩) fun o e => ?_
    have e' : some o = some (seqObj "list" its.toArray 0) := e.symm.trans hb
    cases e'
    intro c
    exact absurd (Value.type.inj c) (by decide)
  · obtain ⟨ep, he'⟩ := PyProof.Rows.sortedAll_at s.heap its out.toArray
    have h3 : ∀ u ∈ out, ∃ a, u = Value.ref a := fun u hu => e2 u (hb.perm.mem_iff.mp hu)
    have hperm : (out.map backV).Perm xs := by rw [e1]; exact hb.perm.map backV
    have hlen : (out.map backV).length ≤ sizeLine := by rw [hperm.length_eq]; exact hz
    refine ⟨.ref _, upd H (s.heap.objs.size + 1) (.lst (out.map backV)), I.laid (t' := s.toks) (fun _ _ => PyProof.Rows.sortedAll_old) (Nat.le_succ _) ⟨hlen, out, ep, vals_back h3, he'⟩, rfl, q _ _ hperm ?_ (I.hok.fresh (Nat.le_succ _))⟩
    rw [List.map_map, List.pairwise_map]
    exact hs
end Fx

set_option Elab.async false
set_option linter.all false
set_option maxRecDepth 100000
set_option maxHeartbeats 4000000
set_option autoImplicit false
/-! Fx, part Zf: more constructs. -/
namespace Fx
open PySem PySem.Spec PyProof.Rows L2

/-! ### what is never done -/
def fNever : FS := fun _ _ => .stuck
section
variable {X : Cx} {W : WX} {pos : Pos} {e a b : Expr} {f fa fb : FE}
theorem ss_never {st : Stmt} : SS X W st fNever := ps_imp ps_never fun D σ H ⟨env, st, φ, a, q⟩ => q.elim
/-- a constant of the module -/
theorem se_globI {x : Str} {i : Int} (hg : Gl X x) (hm : ∃ t, X.mg x = some (.int i t)) (hd : (x == ("__debug__" : Str)) = false := by decide) : SE X W (.Name x pos) (fC (.int i)) := by
  obtain ⟨t, ht⟩ := hm
  refine pe_imp (pe_glob (v := .int i) hg ht ⟨t, rfl⟩ hd) fun σ H Q ⟨env, st, φ, a, q⟩ => ?_
  exact of_val a.rs (.int i) q
theorem se_globS {x z : Str} (hg : Gl X x) (hm : ∃ t, X.mg x = some (.str z t)) (hd : (x == ("__debug__" : Str)) = false := by decide) : SE X W (.Name x pos) (fC (.str z)) := by
  obtain ⟨t, ht⟩ := hm
  refine pe_imp (pe_glob (v := .str z) hg ht ⟨t, rfl⟩ hd) fun σ H Q ⟨env, st, φ, a, q⟩ => ?_
  exact of_val a.rs (.str z) q
theorem bShl (ha : SE X W a fa) (hb : SE X W b fb) : SE X W (.BinOp a .LShift b pos) (fBin gShl fa fb) := se_op op_shl op2_shl ha hb
theorem bShr (ha : SE X W a fa) (hb : SE X W b fb) : SE X W (.BinOp a .RShift b pos) (fBin gShr fa fb) := se_op op_shr op2_shr ha hb
theorem bAnd (ha : SE X W a fa) (hb : SE X W b fb) : SE X W (.BinOp a .BitAnd b pos) (fBin gAnd fa fb) := se_op op_and op2_and ha hb
/-- max(a, b) -/
def fMax2 (g : FA) : FE := fun env st => (g env st).bind fun ds st1 => match ds with
  | [.int i, .int j] => .ok (.v (.int (if j > i then j else i))) st1
  | _ => .stuck
theorem cMax2 {p : Pos} {g : FA} (hc : X.calm = true) (hg : Gl X "max") (hm : X.mg "max" = none) (ha : SA X W [a, b] g) (he : starEach (a :: [b]) X.env = (false, eval a X.env) :: starEach [b] X.env := by rfl) (hpl : (backTo pos (starEach [b] X.env)).any (·.1) = false := by rfl) :
    SE X W (.Call (.Name "max" p) [a, b] [] pos) (fMax2 g) := by
  refine pe_imp (pe_callB (call_max2 hc) hg hm (by decide +kernel) ha (by decide) (by decide) he hpl) fun σ H Q ⟨env, st, φ, a, q⟩ => ?_
  refine tA_seq a q fun ds st1 H1 φ1 vs e1 a1 rv q1 => ?_
  split at q1
  · rename_i i j
    cases rv with
    | cons r1 t =>
      cases t with
      | cons r2 t =>
        cases t
        cases r1
        cases r2
        exact ⟨i, j, rfl, of_val a1.rs (.int _) q1⟩
  · exact q1.elim

/-! ### max, min, all, any of a list -/
def maxL : List Int → Int
  | [] => 0
  | [x] => x
  | x :: y :: r => if maxL (y :: r) > x then maxL (y :: r) else x
def minL : List Int → Int
  | [] => 0
  | [x] => x
  | x :: y :: r => if minL (y :: r) < x then minL (y :: r) else x
theorem maxL_mem : ∀ (ns : List Int), ns ≠ [] → maxL ns ∈ ns
  | [], h => absurd rfl h
  | [x], _ => by simp [maxL]
  | x :: y :: r, _ => by
    have := maxL_mem (y :: r) (by simp)
    unfold maxL
    split
    · exact List.mem_cons_of_mem _ this
    · exact List.mem_cons_self
theorem maxL_le : ∀ (ns : List Int), ∀ y ∈ ns, y ≤ maxL ns
  | [], y, h => by simp at h
  | [x], y, h => by simp at h; simp [maxL, h]
  | x :: z :: r, y, h => by
    have ih := maxL_le (z :: r)
    unfold maxL
    rcases List.mem_cons.mp h with e | e
    · subst e; split <;> omega
    · have := ih y e
      split <;> omega
theorem minL_mem : ∀ (ns : List Int), ns ≠ [] → minL ns ∈ ns
  | [], h => absurd rfl h
  | [x], _ => by simp [minL]
  | x :: y :: r, _ => by
    have := minL_mem (y :: r) (by simp)
    unfold minL
    split
    · exact List.mem_cons_of_mem _ this
    · exact List.mem_cons_self
theorem minL_le : ∀ (ns : List Int), ∀ y ∈ ns, minL ns ≤ y
  | [], y, h => by simp at h
  | [x], y, h => by simp at h; simp [minL, h]
  | x :: z :: r, y, h => by
    have ih := minL_le (z :: r)
    unfold minL
    rcases List.mem_cons.mp h with e | e
    · subst e; split <;> omega
    · have := ih y e
      split <;> omega
def D.asB : D → Option Bool
  | .bl b => some b
  | _ => none
theorem asB_ok {K : PySem.W.Frag} {H : Hp} {φ : List Addr} : ∀ {xs : List D} {vs : List V} {ks : List Bool}, RDs K H φ xs vs → xs.mapM D.asB = some ks → vs = ks.map V.bl
  | [], _, ks, .nil, e => by
    have : ks = [] := by simpa using e.symm
    subst this; rfl
  | d :: ds, _, ks, .cons h t, e => by
    rw [List.mapM_cons] at e
    cases e1 : d.asB with
    | none => rw [e1] at e; cases e
    | some k =>
      rw [e1] at e
      cases e2 : ds.mapM D.asB with
      | none => rw [e2] at e; cases e
      | some ls =>
        rw [e2] at e
        have : ks = k :: ls := by simpa using e.symm
        subst this
        rw [asB_ok t e2]
        cases d with
        | bl b => cases e1; cases h; rfl
        | _ => cases e1
def gMaxL (r : R) (st : Store) : Out R := match (seqL st r).bind fun xs => xs.mapM D.asI with
  | some (k :: ks) => .ok (.v (.int (maxL (k :: ks)))) st
  | _ => .stuck
def gMinL (r : R) (st : Store) : Out R := match (seqL st r).bind fun xs => xs.mapM D.asI with
  | some (k :: ks) => .ok (.v (.int (minL (k :: ks)))) st
  | _ => .stuck
def gAllL (r : R) (st : Store) : Out R := match (seqL st r).bind fun xs => xs.mapM D.asB with
  | some ks => .ok (.v (.bl (ks.all id))) st
  | _ => .stuck
def gAnyL (r : R) (st : Store) : Out R := match (seqL st r).bind fun xs => xs.mapM D.asB with
  | some ks => .ok (.v (.bl (ks.any id))) st
  | _ => .stuck
theorem bind_some' {α β : Type} {o : Option α} {k : α → Option β} {b : β} (h : o.bind k = some b) : ∃ a, o = some a ∧ k a = some b := by
  cases o with
  | none => cases h
  | some a => exact ⟨a, rfl, h⟩
theorem cr1_maxL : Cr1 X (rMax X.K) gMaxL := by
  intro W σ H H0 φ st ra x Q s rx h
  unfold gMaxL at h
  split at h
  · rename_i k ks e
    obtain ⟨xs, e1, e2⟩ := bind_some' e
    obtain ⟨a, vs, rfl, q, t⟩ := seqL_ok s rx e1
    obtain ⟨rfl, _⟩ := asI_ok t e2
    refine ⟨a, _, rfl, q, by simp, fun m hm hle => ?_⟩
    have : m = maxL (k :: ks) := Int.le_antisymm (maxL_le _ m hm) (hle _ (maxL_mem _ (by simp)))
    rw [this]
    exact of_val (M := X.md) s (.int _) h
  · exact h.elim
theorem cr1_minL : Cr1 X (rMin X.K) gMinL := by
  intro W σ H H0 φ st ra x Q s rx h
  unfold gMinL at h
  split at h
  · rename_i k ks e
    obtain ⟨xs, e1, e2⟩ := bind_some' e
    obtain ⟨a, vs, rfl, q, t⟩ := seqL_ok s rx e1
    obtain ⟨rfl, _⟩ := asI_ok t e2
    refine ⟨a, _, rfl, q, by simp, fun m hm hle => ?_⟩
    have : m = minL (k :: ks) := Int.le_antisymm (hle _ (minL_mem _ (by simp))) (minL_le _ m hm)
    rw [this]
    exact of_val (M := X.md) s (.int _) h
  · exact h.elim
theorem cr1_allL : Cr1 X (rAll X.K) gAllL := by
  intro W σ H H0 φ st ra x Q s rx h
  unfold gAllL at h
  split at h
  · rename_i ks e
    obtain ⟨xs, e1, e2⟩ := bind_some' e
    obtain ⟨a, vs, rfl, q, t⟩ := seqL_ok s rx e1
    rw [asB_ok t e2] at q
    exact ⟨a, ks, rfl, q, of_val (M := X.md) s (.bl _) h⟩
  · exact h.elim
theorem cr1_anyL : Cr1 X (rAny X.K) gAnyL := by
  intro W σ H H0 φ st ra x Q s rx h
  unfold gAnyL at h
  split at h
  · rename_i ks e
    obtain ⟨xs, e1, e2⟩ := bind_some' e
    obtain ⟨a, vs, rfl, q, t⟩ := seqL_ok s rx e1
    rw [asB_ok t e2] at q
    exact ⟨a, ks, rfl, q, of_val (M := X.md) s (.bl _) h⟩
  · exact h.elim
section
variable {p : Pos} (hc : X.calm = true)
include hc
theorem cMaxL (hg : Gl X "max") (hm : X.mg "max" = none) (ha : SE X W a fa) (he : starEach (a :: []) X.env = (false, eval a X.env) :: starEach [] X.env := by rfl) (hpl : (backTo pos (starEach [] X.env)).any (·.1) = false := by rfl) : SE X W (.Call (.Name "max" p) [a] [] pos) (fCall1 gMaxL fa) := se_callB (cr_max hc) cr1_maxL hg hm (by decide +kernel) ha (by decide) (by decide) he hpl
theorem cMinL (hg : Gl X "min") (hm : X.mg "min" = none) (ha : SE X W a fa) (he : starEach (a :: []) X.env = (false, eval a X.env) :: starEach [] X.env := by rfl) (hpl : (backTo pos (starEach [] X.env)).any (·.1) = false := by rfl) : SE X W (.Call (.Name "min" p) [a] [] pos) (fCall1 gMinL fa) := se_callB (cr_min hc) cr1_minL hg hm (by decide +kernel) ha (by decide) (by decide) he hpl
theorem cAllL (hg : Gl X "all") (hm : X.mg "all" = none) (ha : SE X W a fa) (he : starEach (a :: []) X.env = (false, eval a X.env) :: starEach [] X.env := by rfl) (hpl : (backTo pos (starEach [] X.env)).any (·.1) = false := by rfl) : SE X W (.Call (.Name "all" p) [a] [] pos) (fCall1 gAllL fa) := se_callB (cr_all hc) cr1_allL hg hm (by decide +kernel) ha (by decide) (by decide) he hpl
theorem cAnyL (hg : Gl X "any") (hm : X.mg "any" = none) (ha : SE X W a fa) (he : starEach (a :: []) X.env = (false, eval a X.env) :: starEach [] X.env := by rfl) (hpl : (backTo pos (starEach [] X.env)).any (·.1) = false := by rfl) : SE X W (.Call (.Name "any" p) [a] [] pos) (fCall1 gAnyL fa) := se_callB (cr_any hc) cr1_anyL hg hm (by decide +kernel) ha (by decide) (by decide) he hpl
end

/-! ### isinstance -/
def tyName (st : Store) : R → Option String
  | .v .non => some "NoneType"
  | .v (.bl _) => some "bool"
  | .v (.int _) => some "int"
  | .v (.str _) => some "str"
  | .v (.tup _) => some "tuple"
  | .v (.lz _) => some "list"
  | .v (.ref n) => match st[n]? with
    | some (.lst _) => some "list"
    | some (.dK _) => some "dict"
    | some (.dT _) => some "dict"
    | _ => none
  | .o (.lst _) => some "list"
  | .o (.dK _) => some "dict"
  | .o (.dT _) => some "dict"
  | _ => none
/-- is a value of one built-in class one of another -/
def isaT (t u : String) : Option Bool := kitB t u
def gIsTy (T : String) (r : R) (st : Store) : Out R := match (tyName st r).bind fun t => isaT t T with
  | some b => .ok (.v (.bl b)) st
  | none => .stuck
theorem tyName_ok {P : Program} {w : World} {K : PySem.W.Frag} {H H0 : Hp} {φ : List Addr} {st : Store} {r : R} {v : V} {t : String} (s : RS P w K H φ st) (rx : RR P w K H0 H φ r v) (e : tyName st r = some t) : TyX K H v (.type t) := by
  have ro : ∀ {o : O} {a : Addr}, RO P w K H φ o a → ((∃ xs, o = .lst xs) → TyX K H (.ref a) (.type "list")) ∧ (((∃ k, o = .dK k) ∨ ∃ k, o = .dT k) → TyX K H (.ref a) (.type "dict")) := by
    intro o a h
    cases h with
    | lst h r => exact ⟨fun _ => .base (.lst h), fun z => by rcases z with ⟨k, z⟩ | ⟨k, z⟩ <;> cases z⟩
    | dK h r => exact ⟨fun ⟨_, z⟩ => (nomatch z), fun _ => .base (.dK h)⟩
    | dT h r => exact ⟨fun ⟨_, z⟩ => (nomatch z), fun _ => .base (.dT h)⟩
    | sT h t e => exact ⟨fun ⟨_, z⟩ => (nomatch z), fun z => by rcases z with ⟨k, z⟩ | ⟨k, z⟩ <;> cases z⟩
    | sI h m e nd => exact ⟨fun ⟨_, z⟩ => (nomatch z), fun z => by rcases z with ⟨k, z⟩ | ⟨k, z⟩ <;> cases z⟩
  cases r with
  | o x =>
    obtain ⟨a, rfl, hx, _⟩ := rx
    cases x with
    | lst xs => cases e; exact (ro hx).1 ⟨_, rfl⟩
    | dK k => cases e; exact (ro hx).2 (.inl ⟨_, rfl⟩)
    | dT k => cases e; exact (ro hx).2 (.inr ⟨_, rfl⟩)
    | sT k => cases e
    | sI k => cases e
  | v d =>
    have rx' : RD K H φ d v := rx
    cases rx' with
    | non => cases e; exact .base .non
    | bl b => cases e; exact .base (.bl b)
    | int i => cases e; exact .base (.int i)
    | str x => cases e; exact .base (.str x)
    | tup h r => cases e; exact .base (.tup h)
    | lz h r =>
      cases e
      rcases h with ⟨o, h⟩ | ⟨o, its, n, h1, h2, _⟩
      · exact .base (.frz h)
      · exact .kList h1 h2
    | ref h =>
      obtain ⟨o, h1, h2⟩ := s.os.get h
      simp only [tyName, h1] at e
      cases o with
      | lst xs => cases e; exact (ro h2).1 ⟨_, rfl⟩
      | dK k => cases e; exact (ro h2).2 (.inl ⟨_, rfl⟩)
      | dT k => cases e; exact (ro h2).2 (.inr ⟨_, rfl⟩)
      | sT k => cases e
      | sI k => cases e
/-- isinstance(e, T), T a built-in class by its name -/
theorem cIsTy {T : String} {x : Str} {p p2 : Pos} (hg : Gl X "isinstance") (hm : X.mg "isinstance" = none) (hgT : Gl X x) (hmT : X.mg x = none) (hvT : bootBuiltins x = some (.type T)) (ha : SE X W a fa) (hn : x ≠ "__name__" := by decide) (hd : (x == ("__debug__" : Str)) = false := by decide)
    (he : starEach (a :: [.Name x p2]) X.env = (false, eval a X.env) :: starEach [.Name x p2] X.env := by rfl) (he2 : starEach (.Name x p2 :: []) X.env = (false, eval (.Name x p2) X.env) :: starEach [] X.env := by rfl) (hpl : (backTo pos (starEach [.Name x p2] X.env)).any (·.1) = false := by rfl) :
    SE X W (.Call (.Name "isinstance" p) [a, .Name x p2] [] pos) (fCall1 (gIsTy T) fa) := by
  refine pe_imp (pe_callB call_isi hg hm (by decide +kernel) (pa_cons ha (pa_cons (pe_bltn (v := .ty T) hgT hmT hvT rfl hn hd) L2.pa_nil he2) he) (by decide) (by decide) he hpl) fun σ H Q ⟨env, st, φ, a, q⟩ => ?_
  refine tE_seq a q fun ra st1 H1 φ1 v e1 a1 rv q1 => ?_
  unfold gIsTy at q1
  split at q1
  · rename_i b eb
    obtain ⟨t, t1, t2⟩ := bind_some' eb
    exact ⟨v, .ty T, .type t, .type T, b, rfl, .ty T, tyName_ok a1.rs rv t1, kit_ty t2, of_val a1.rs (.bl b) q1⟩
  · exact q1.elim

/-! ### sets, sorted: all kinds -/
def gSetX (r : R) (st : Store) : Out R := match (seqL st r).bind fun xs => xs.mapM D.asI with
  | some ks => if ks.length ≤ 4000 then .ok (.o (.sI (srtU ltI ks))) st else .stuck
  | none => gSetT r st
theorem cr1_setX : Cr1 X (fun xs H Q => rSetInts X.K X.w xs H Q ∨ rSetOfT X.K X.prog X.w xs H Q) gSetX := by
  intro W σ H H0 φ st ra x Q s rx h
  unfold gSetX at h
  split at h
  · rename_i ks e
    split at h
    · rename_i hl
      obtain ⟨xs, e1, e2⟩ := bind_some' e
      obtain ⟨a, vs, rfl, q, t⟩ := seqL_ok s rx e1
      obtain ⟨rfl, _⟩ := asI_ok t e2
      refine .inl ⟨a, ks, rfl, q, hl, fun b c hb hc => ?_⟩
      refine h _ _ (Ext.new hb) (s.new hb) _ ⟨b, rfl, .sI (S := fun j => decide (j ∈ ks)) (n := c) upd_same (fun k => ?_) hc.symm (srtU_nodup ks), s.notin hb, hb⟩
      rw [srtU_mem]; simp
    · exact h.elim
  · exact .inr (cr1_setT W σ H H0 φ st ra x Q s rx h)
theorem cSetX {p : Pos} (C : Cd X) (hg : Gl X "set") (hm : X.mg "set" = none) (ha : SE X W a fa) (he : starEach (a :: []) X.env = (false, eval a X.env) :: starEach [] X.env := by rfl) (hpl : (backTo pos (starEach [] X.env)).any (·.1) = false := by rfl) : SE X W (.Call (.Name "set" p) [a] [] pos) (fCall1 gSetX fa) :=
  se_callTy (CallR.or (cr_setInts C.hc) (cr_setOfT C.hc (Nat.lt_of_le_of_lt (by omega) C.hu))) cr1_setX hg hm (by decide +kernel) ha (by decide) (by decide) he hpl
noncomputable def gSortX (r : R) (st : Store) : Out R := match objOf st r with
  | some (.sI L) => if L.length < 64 then .ok (.o (.lst ((srtU ltI L).map .int))) st else .stuck
  | _ => match (seqL st r).bind fun xs => xs.mapM D.asT with
    | some (k :: ks) => if (k :: ks).all (fun t => !t.isEmpty) = true then .ok (.o (.lst ((srt lexB (k :: ks)).map dtup))) st else .stuck
    | _ => gSorted r st
theorem srt_lex_perm {k : List (List Int)} {ys : List (List Int)} (p : ys.Perm k) (h : ys.Pairwise (fun x y => lexB y x = false)) : ys = srt lexB k := srt_eq sto_lex h p
theorem rds_of_map {K : PySem.W.Frag} {H : Hp} {φ : List Addr} (k : V → List Int) : ∀ ys : List V, (∀ y ∈ ys, ∃ t, y = .ref t ∧ H t = some (.tup ((k y).map V.int))) → RDs K H φ ((ys.map k).map dtup) ys
  | [], _ => .nil
  | y :: ys, h => by
    obtain ⟨t, e, ht⟩ := h y List.mem_cons_self
    refine .cons ?_ (rds_of_map k ys fun z hz => h z (List.mem_cons_of_mem _ hz))
    rw [e]
    rw [e] at ht
    exact .tup ht (rds_ints _)
theorem cr1_sortX : Cr1 X (fun xs H Q => rSortedSet X.w xs H Q ∨ rSortTs X.K xs H Q ∨ rSortedA X.K X.prog X.w xs H Q) gSortX := by
  intro W σ H H0 φ st ra x Q s rx h
  unfold gSortX at h
  split at h
  · rename_i L eo
    split at h
    · rename_i hl
      obtain ⟨a, rfl, ro⟩ := objOf_ok s rx eo
      cases ro with
      | @sI _ _ S n hq hm he nd =>
        refine .inl ⟨a, S, n, rfl, hq, by omega, fun ns p pw mem _ hn => ?_⟩
        have e : ns = srtU ltI L := srtU_eq sto_int (pw.imp fun {a b} h => decide_eq_true h) fun z => by rw [mem, hm]
        subst e
        exact new_lst (M := X.md) s (rds_ints _) h hn
    · exact h.elim
  · split at h
    · rename_i k ks e
      split at h
      · rename_i hne
        obtain ⟨xs, e1, e2⟩ := bind_some' e
        obtain ⟨a, vs, rfl, q, t⟩ := seqL_ok s rx e1
        obtain ⟨M, rfl, m2, m3⟩ := asT_ok t e2
        -- the ints behind each address
        classical
        let kf : V → List Int := fun v => if h : ∃ p ∈ M, v = V.ref p.1 then (Classical.choose h).2 else []
        have kfM : ∀ p ∈ M, H p.1 = some (.tup ((kf (.ref p.1)).map V.int)) ∧ kf (.ref p.1) = p.2 := fun p hp => by
          have ex : ∃ p' ∈ M, V.ref p.1 = V.ref p'.1 := ⟨p, hp, rfl⟩
          have hk : kf (.ref p.1) = (Classical.choose ex).2 := dif_pos ex
          obtain ⟨h1, h2⟩ := Classical.choose_spec ex
          injection h2 with h2
          have h3 := m3 _ h1
          rw [← h2, m3 p hp] at h3
          injection h3 with h3
          injection h3 with h3
          have inj : ∀ l m : List Int, l.map V.int = m.map V.int → l = m := by
            intro l
            induction l with
            | nil => intro m h; cases m with
              | nil => rfl
              | cons _ _ => cases h
            | cons a l ih => intro m h; cases m with
              | nil => cases h
              | cons b m => injection h with h4 h5; injection h4 with h4; rw [h4, ih m h5]
          have h4 := inj _ _ h3
          rw [hk, ← h4]
          exact ⟨m3 p hp, rfl⟩
        have kmap : (M.map fun p => V.ref p.1).map kf = k :: ks := by
          rw [← m2, List.map_map]
          exact List.map_congr_left fun p hp => (kfM p hp).2
        refine .inr (.inl ⟨a, _, kf, rfl, q, fun y hy => ?_, fun ys p hp hs hn => ?_⟩)
        · obtain ⟨p, hp, rfl⟩ := List.mem_map.mp hy
          refine ⟨⟨p.1, rfl, SqT.of (kfM p hp).1⟩, fun z => ?_⟩
          have hin : p.2 ∈ k :: ks := by rw [← m2]; exact List.mem_map.mpr ⟨p, hp, rfl⟩
          have := List.all_eq_true.mp hne p.2 hin
          rw [← (kfM p hp).2, z] at this
          cases this
        · have e3 : ys.map kf = srt lexB (k :: ks) := srt_lex_perm (by rw [← kmap]; exact hp.map kf) hs
          rw [← e3] at h
          refine new_lst (M := X.md) s (rds_of_map kf ys fun y hy => ?_) h hn
          obtain ⟨p, hp', rfl⟩ := List.mem_map.mp (hp.mem_iff.mp hy)
          exact ⟨p.1, rfl, (kfM p hp').1⟩
      · exact h.elim
    · exact .inr (.inr (cr1_sorted W σ H H0 φ st ra x Q s rx h))
end
end Fx

set_option Elab.async false
set_option linter.all false
set_option maxRecDepth 100000
set_option maxHeartbeats 4000000
set_option autoImplicit false
/-! Fx, part Zg: adding in place, methods of lists. -/
namespace Fx
open PySem PySem.Spec PyProof.Rows L2
section
variable {X : Cx} {W : WX} {pos : Pos} {e a b : Expr} {f fa fb : FE}
theorem cSortX {p : Pos} (C : Cd X) (hg : Gl X "sorted") (hm : X.mg "sorted" = none) (ha : SE X W a fa) (he : starEach (a :: []) X.env = (false, eval a X.env) :: starEach [] X.env := by rfl) (hpl : (backTo pos (starEach [] X.env)).any (·.1) = false := by rfl) : SE X W (.Call (.Name "sorted" p) [a] [] pos) (fCall1 gSortX fa) :=
  se_callB (CallR.or (cr_sortedSet C.hc) (CallR.or cr_sortTs (cr_sortedA C))) cr1_sortX hg hm (by decide +kernel) ha (by decide) (by decide) he hpl
/-- x += e, two ints -/
def fAug (op : Int → Int → Int) (i : Nat) (f : FE) : FS := fun env st => match env[i]? with
  | some (some (.int x)) => (f env st).thenS env fun r st1 => match r with
    | .v (.int y) => .next (env.set i (some (.int (op x y)))) st1
    | _ => .stuck
  | _ => .stuck
theorem ss_aug {op : Operator} {o : Int → Int → Int} {i : Nat} {x : Str} {pos' : Pos} (ho : PIp X op (ipI o)) (hN : X.N.Nodup) (hi : X.N[i]? = some x) (hx : Loc X.env.scope x) (he : SE X W e f) (hf : X.fn x = true ∨ X.env.scope.names.lookup x = some .local := by first | exact .inl rfl | exact .inr rfl | assumption) :
    SS X W (.AugAssign (.Name x pos') op e pos) (fAug o i f) := by
  refine ps_imp (ps_aug hN hi hx he ho hf) fun D σ H ⟨env, st, φ, a, q⟩ => ?_
  unfold fAug at q
  split at q
  · rename_i z hz
    obtain ⟨v, e1, rv⟩ := a.re.get _ _ hz
    cases rv
    refine ⟨_, e1, tE_then a q fun r st1 H1 φ1 y e1 a1 ry q1 => ?_⟩
    split at q1
    · rename_i j
      have ej := int_ok ry
      subst ej
      exact ⟨z, j, rfl, rfl, q1 H1 φ1 _ e1 ⟨a1.re.set (.int _), a1.rs⟩⟩
    · exact q1.elim
  · exact q.elim
/-- xs[i] by values -/
theorem get_list : PGet X (rIxL X.K) := by
  intro pins s σ H o i ov iv Q I ro ri h
  obtain ⟨p, xs, k, z, rfl, rfl, hq, he, q⟩ := h
  cases ro
  obtain ⟨t, rfl⟩ := ri
  obtain ⟨its, r, pl, hz⟩ := I.list hq
  obtain ⟨j, h1, h2, h3, h4, h5⟩ := atI_get he
  obtain ⟨w, ew, rw'⟩ := r.get h2
  have hl := r.length
  have hn := line63
  by_cases h0 : 0 ≤ k
  · have hj : k.toNat = j := by
      rw [seqIndex_of h0 h5] at h1
      exact Option.some.inj h1
    exact wpAny_getItem_list pl.isList h0 (by omega) (by rw [hj]; simpa using ew) ⟨z, H, I, rw', q⟩
  · have hj : (k + (its.toArray.size : Int)).toNat = j := by
      rw [seqIndex_neg (by omega) h4] at h1
      rw [List.size_toArray, ← hl]
      exact Option.some.inj h1
    exact wpAny_getItem_list_neg pl.isList (by omega) (by rw [List.size_toArray] <;> omega) (by omega) (by rw [hj]; simpa using ew) ⟨z, H, I, rw', q⟩
/-- xs[i] += e, a list of ints -/
def fAugS (op : Int → Int → Int) (fo fi f : FE) : FS := fun env st => (fo env st).thenS env fun ro st1 => (fi env st1).thenS env fun ri st2 => match ro, ri with
  | .v (.ref n), .v (.int k) => match lstAt st2 n with
    | some xs => match atI xs k with
      | some (.int x) => (f env st2).thenS env fun r st3 => match r with
        | .v (.int y) => match putAt (.v (.ref n)) (.v (.int k)) (.int (op x y)) st3 with
          | some st4 => .next env st4
          | none => .stuck
        | _ => .stuck
      | _ => .stuck
    | none => .stuck
  | _, _ => .stuck
theorem ss_augS {op : Operator} {o : Int → Int → Int} {eo ei : Expr} {fo fi : FE} {tpos : Pos} (C : Cd X) (ho : PIp X op (ipI o)) (hfo : SE X W eo fo) (hfi : SE X W ei fi) (hf : SE X W e f)
    (ha : ∀ ov iv new, augStore ei ov iv new = (do holding [new, ov, iv] (setItem ov iv new); release [new, ov, iv] []; pure .next) := by intros; rfl) : SS X W (.AugAssign (.Subscript eo ei tpos) op e pos) (fAugS o fo fi f) := by
  refine ps_imp (ps_augS hfo hfi get_list hf ho (set_any C) ha) fun D σ H ⟨env, st, φ, a, q⟩ => ?_
  refine tE_then a q fun ro st1 H1 φ1 vo e1 a1 rro q1 => ?_
  refine tE_then a1 (PostS.rebase q1 e1) fun ri st2 H2 φ2 vi e2 a2 rri q2 => ?_
  split at q2
  · rename_i n k
    have ek := int_ok rri
    subst ek
    split at q2
    · rename_i xs el
      split at q2
      · rename_i z ez
        obtain ⟨b, vs, hb, hq, t⟩ := lst_at (M := X.md) a2.rs el
        have eo := ref_val (rro.mono e2) hb
        subst eo
        obtain ⟨v, ev, rv⟩ := t.atI ez
        cases rv
        refine ⟨b, vs, k, _, rfl, rfl, SqL.of hq, ev, ?_⟩
        refine tE_then a2 (PostS.rebase q2 e2) fun r st3 H3 φ3 y e3 a3 ry q3 => ?_
        split at q3
        · rename_i j
          have ej := int_ok ry
          subst ej
          refine ⟨z, j, rfl, rfl, ?_⟩
          split at q3
          · rename_i st4 e4
            refine putAt_ok (M := X.md) (H0 := H) (H0' := H1) a3.rs ((rro.mono e2).mono e3) (rri.mono e3) (.int _) e4 fun H' e5 s5 => ?_
            exact q3 H' φ3 σ (e3.trans e5) (a3.then e5 s5)
          · exact q3.elim
        · exact q3.elim
      · exact q2.elim
    · exact q2.elim
  · exact q2.elim

theorem fnG_stuck {P : Program} {w : World} {K : PySem.W.Frag} {mg : Str → Option Value} {base : Heap} {k : Nat} {f : Addr} {fd : FuncData} {ps : List Str} : FnG P w K mg base k f fd ps (fun _ _ => .stuck) :=
  ⟨fun A outer s H args us vs Q E φ ds st _ _ _ _ _ _ _ _ hp => hp.elim⟩

/-! ### methods of lists -/
/-- the first place of an int -/
def gIndex : F3 := fun ro ra st => match (seqL st ro).bind fun xs => xs.mapM D.asI, ra with
  | some ks, .v (.int k) => if k ∈ ks then .ok (.v (.int (ks.idxOf k : Nat))) st else .stuck
  | _, _ => .stuck
theorem flat_ints (ks : List Int) : (ks.map V.int).all L2.flatV = true := by
  rw [List.all_eq_true]; intro v hv; obtain ⟨k, _, rfl⟩ := List.mem_map.mp hv; rfl
theorem mt1_index : Mt1 X (rIndex X.K) gIndex := by
  intro W σ H1 H H0 φ1 φ st ro ra o a Q e s rro rra h
  unfold gIndex at h
  split at h
  · rename_i ks k ek
    split at h
    · rename_i hk
      obtain ⟨xs, e1, e2⟩ := bind_some' ek
      obtain ⟨b, vs, rfl, hq, t⟩ := seqL_ok s rro e1
      obtain ⟨rfl, _⟩ := asI_ok t e2
      have ea := int_ok rra
      subst ea
      have hlt := List.idxOf_lt_length_of_mem hk
      refine ⟨b, _, .int k, ks.idxOf k, .int k, rfl, rfl, hq, rfl, flat_ints ks, ?_, by simp [eqV], fun m z hm hz => ?_, ?_⟩
      · rw [List.getElem?_map, List.getElem?_eq_getElem hlt, List.getElem_idxOf]; rfl
      · rw [List.getElem?_map] at hz
        cases hz2 : ks[m]? with
        | none => rw [hz2] at hz; cases hz
        | some y =>
          rw [hz2] at hz
          cases hz
          have hne : y ≠ k := fun e => by
            subst e
            have := List.not_of_lt_findIdx (p := (· == y)) (xs := ks) (i := m) hm
            obtain ⟨h1, h2⟩ := List.getElem?_eq_some_iff.mp hz2
            rw [h2] at this
            simp at this
          simp [eqV, hne]
      · exact h H φ e s _ (.int _)
    · exact h.elim
  · exact h.elim
end
end Fx

set_option Elab.async false
set_option linter.all false
set_option maxRecDepth 100000
set_option maxHeartbeats 4000000
set_option autoImplicit false
/-! Fx, part V: what a store holds, as owned values; how one value is taken out and put back. -/
namespace Fx
open PySem PySem.Spec PyProof.Rows L2
/-- where what is drawn of stands: among the first m objects, the one of number n -/
class BagAt where
  n : Nat
  m : Nat
  h : n < m
variable [BagAt]

/-- a value that nothing can write -/
inductive PV where
  | non | bl (b : Bool) | int (i : Int) | str (x : Str) | tup (xs : List PV)
mutual
def PV.d : PV → D
  | .non => .non
  | .bl b => .bl b
  | .int i => .int i
  | .str x => .str x
  | .tup xs => .tup (PV.ds xs)
def PV.ds : List PV → List D
  | [] => []
  | p :: ps => p.d :: PV.ds ps
end
theorem PV.ds_map : ∀ ps : List PV, PV.ds ps = ps.map PV.d
  | [] => rfl
  | p :: ps => by rw [PV.ds, PV.ds_map ps]; rfl
mutual
theorem PV.blw {n : Nat} : ∀ p : PV, Bl n p.d
  | .non => .non
  | .bl b => .bl b
  | .int i => .int i
  | .str x => .str x
  | .tup xs => .tup (PV.blws xs)
theorem PV.blws {n : Nat} : ∀ ps : List PV, Bls n (PV.ds ps)
  | [] => .nil
  | p :: ps => .cons p.blw (PV.blws ps)
end

/-- a value with what it holds for itself -/
inductive G where
  | im (p : PV) | bag | lst (gs : List G) | dk (kvs : List (Key × PV)) | dt (kvs : List (List Key × PV)) | sT (L : List (List Int)) | sI (L : List Int) | tp (gs : List G) | lsp (ps : List (Option Nat)) (gs : List G)

def kvD {κ : Type} (kvs : List (κ × PV)) : List (κ × D) := kvs.map fun kv => (kv.1, kv.2.d)

mutual
inductive Own (st : Store) : G → D → List Nat → Prop
  | im (p : PV) : Own st (.im p) p.d []
  | bag : Own st .bag (.ref BagAt.n) []
  | obj {n : Nat} {x : O} {g : G} {fs : List Nat} (h : st[n]? = some x) (o : OOwn st x g fs) : Own st g (.ref n) (n :: fs)
  | tp {gs : List G} {ds : List D} {fs : List Nat} (o : Owns st gs ds fs) : Own st (.tp gs) (.tup ds) fs
inductive OOwn (st : Store) : O → G → List Nat → Prop
  | lst {gs : List G} {ds : List D} {fs : List Nat} (o : Owns st gs ds fs) : OOwn st (.lst ds) (.lst gs) fs
  | lsp {ps : List (Option Nat)} {gs : List G} {ds : List D} {fs : List Nat} (o : Owns st gs ds fs) (p : ∀ (i n : Nat), ps[i]? = some (some n) → ds[i]? = some (.ref n)) : OOwn st (.lst ds) (.lsp ps gs) fs
  | dk (kvs : List (Key × PV)) : OOwn st (.dK (kvD kvs)) (.dk kvs) []
  | dt (kvs : List (List Key × PV)) : OOwn st (.dT (kvD kvs)) (.dt kvs) []
  | sT (L : List (List Int)) : OOwn st (.sT L) (.sT L) []
  | sI (L : List Int) : OOwn st (.sI L) (.sI L) []
inductive Owns (st : Store) : List G → List D → List Nat → Prop
  | nil : Owns st [] [] []
  | cons {g : G} {d : D} {f : List Nat} {gs : List G} {ds : List D} {fs : List Nat} (h : Own st g d f) (t : Owns st gs ds fs) : Owns st (g :: gs) (d :: ds) (f ++ fs)
end
mutual
theorem Own.keep {st st' : Store} : ∀ {g : G} {d : D} {fs : List Nat}, Own st g d fs → (∀ n ∈ fs, st'[n]? = st[n]?) → Own st' g d fs
  | _, _, _, .im p, _ => .im p
  | _, _, _, .bag, _ => .bag
  | _, _, _, .obj h o, k => .obj ((k _ List.mem_cons_self).trans h) (o.keep fun n hn => k n (List.mem_cons_of_mem _ hn))
  | _, _, _, .tp o, k => .tp (o.keep k)
theorem OOwn.keep {st st' : Store} : ∀ {x : O} {g : G} {fs : List Nat}, OOwn st x g fs → (∀ n ∈ fs, st'[n]? = st[n]?) → OOwn st' x g fs
  | _, _, _, .lst o, k => .lst (o.keep k)
  | _, _, _, .lsp o p, k => .lsp (o.keep k) p
  | _, _, _, .dk L, _ => .dk L
  | _, _, _, .dt L, _ => .dt L
  | _, _, _, .sT L, _ => .sT L
  | _, _, _, .sI L, _ => .sI L
theorem Owns.keep {st st' : Store} : ∀ {gs : List G} {ds : List D} {fs : List Nat}, Owns st gs ds fs → (∀ n ∈ fs, st'[n]? = st[n]?) → Owns st' gs ds fs
  | _, _, _, .nil, _ => .nil
  | _, _, _, .cons h t, k => .cons (h.keep fun n hn => k n (List.mem_append_left _ hn)) (t.keep fun n hn => k n (List.mem_append_right _ hn))
end
theorem kvD_bl {κ : Type} {n : Nat} (kvs : List (κ × PV)) : ∀ p ∈ kvD kvs, Bl n p.2 := fun p hp => by
  obtain ⟨kv, _, rfl⟩ := List.mem_map.mp hp
  exact kv.2.blw
mutual
/-- what is owned lies in the store -/
theorem Own.lt {st : Store} : ∀ {g : G} {d : D} {fs : List Nat}, BagAt.m ≤ st.length → Own st g d fs → Bl st.length d ∧ ∀ n ∈ fs, n < st.length
  | _, _, _, h2, .im p => ⟨p.blw, by simp⟩
  | _, _, _, h2, .bag => ⟨.ref (Nat.lt_of_lt_of_le BagAt.h h2), by simp⟩
  | _, _, _, h2, .obj h o => by
    have hl := (List.getElem?_eq_some_iff.mp h).1
    refine ⟨.ref hl, fun n hn => ?_⟩
    rcases List.mem_cons.mp hn with e | e
    · rw [e]; exact hl
    · exact (o.lt h2).2 n e
  | _, _, _, h2, .tp o => ⟨.tup (o.lt h2).1, (o.lt h2).2⟩
theorem OOwn.lt {st : Store} : ∀ {x : O} {g : G} {fs : List Nat}, BagAt.m ≤ st.length → OOwn st x g fs → OBl st.length x ∧ ∀ n ∈ fs, n < st.length
  | _, _, _, h2, .lst o => ⟨(o.lt h2).1, (o.lt h2).2⟩
  | _, _, _, h2, .lsp o _ => ⟨(o.lt h2).1, (o.lt h2).2⟩
  | _, _, _, h2, .dk L => ⟨kvD_bl L, by simp⟩
  | _, _, _, h2, .dt L => ⟨kvD_bl L, by simp⟩
  | _, _, _, h2, .sT L => ⟨trivial, by simp⟩
  | _, _, _, h2, .sI L => ⟨trivial, by simp⟩
theorem Owns.lt {st : Store} : ∀ {gs : List G} {ds : List D} {fs : List Nat}, BagAt.m ≤ st.length → Owns st gs ds fs → Bls st.length ds ∧ ∀ n ∈ fs, n < st.length
  | _, _, _, h2, .nil => ⟨.nil, by simp⟩
  | _, _, _, h2, .cons h t => ⟨.cons (h.lt h2).1 (t.lt h2).1, fun n hn => by
      rcases List.mem_append.mp hn with e | e
      · exact (h.lt h2).2 n e
      · exact (t.lt h2).2 n e⟩
end
mutual
/-- where old objects speak of old ones alone, what an old one owns is old -/
theorem Own.old {st : Store} {L : Nat} (w : ∀ i o, i < L → st[i]? = some o → OBl L o) : ∀ {g : G} {d : D} {fs : List Nat}, Own st g d fs → Bl L d → ∀ n ∈ fs, n < L
  | _, _, _, .im p, _ => by simp
  | _, _, _, .bag, _ => by simp
  | _, _, _, .obj (n := n) h o, b => fun m hm => by
    have hn : n < L := by cases b with | ref q => exact q
    rcases List.mem_cons.mp hm with e | e
    · rw [e]; exact hn
    · exact o.old w (w _ _ hn h) m e
  | _, _, _, .tp o, b => o.old w (by cases b with | tup q => exact q)
theorem OOwn.old {st : Store} {L : Nat} (w : ∀ i o, i < L → st[i]? = some o → OBl L o) : ∀ {x : O} {g : G} {fs : List Nat}, OOwn st x g fs → OBl L x → ∀ n ∈ fs, n < L
  | _, _, _, .lst o, b => o.old w b
  | _, _, _, .lsp o _, b => o.old w b
  | _, _, _, .dk _, _ => by simp
  | _, _, _, .dt _, _ => by simp
  | _, _, _, .sT _, _ => by simp
  | _, _, _, .sI _, _ => by simp
theorem Owns.old {st : Store} {L : Nat} (w : ∀ i o, i < L → st[i]? = some o → OBl L o) : ∀ {gs : List G} {ds : List D} {fs : List Nat}, Owns st gs ds fs → Bls L ds → ∀ n ∈ fs, n < L
  | _, _, _, .nil, _ => by simp
  | _, _, _, .cons h t, b => fun m hm => by
    cases b with
    | cons b1 b2 =>
      rcases List.mem_append.mp hm with e | e
      · exact h.old w b1 m e
      · exact t.old w b2 m e
end
/-- a result: a value, or a new object -/
inductive ROwn (st : Store) : R → G → List Nat → Prop
  | v {d : D} {g : G} {fs : List Nat} (h : Own st g d fs) : ROwn st (.v d) g fs
  | o {x : O} {g : G} {fs : List Nat} (h : OOwn st x g fs) : ROwn st (.o x) g fs
theorem ROwn.keep {st st' : Store} {r : R} {g : G} {fs : List Nat} (h : ROwn st r g fs) (k : ∀ n ∈ fs, st'[n]? = st[n]?) : ROwn st' r g fs := by
  cases h with
  | v h => exact .v (h.keep k)
  | o h => exact .o (h.keep k)
theorem ROwn.lt {st : Store} {r : R} {g : G} {fs : List Nat} (h2 : BagAt.m ≤ st.length) (h : ROwn st r g fs) : ∀ n ∈ fs, n < st.length := by
  cases h with
  | v h => exact (h.lt h2).2
  | o h => exact (h.lt h2).2
theorem Owns.app {st : Store} : ∀ {gs : List G} {ds : List D} {fs : List Nat} {gs' : List G} {ds' : List D} {fs' : List Nat}, Owns st gs ds fs → Owns st gs' ds' fs' → Owns st (gs ++ gs') (ds ++ ds') (fs ++ fs')
  | _, _, _, _, _, _, .nil, b => b
  | _, _, _, _, _, _, .cons h t, b => by rw [List.append_assoc]; exact .cons h (t.app b)
theorem Owns.length {st : Store} : ∀ {gs : List G} {ds : List D} {fs : List Nat}, Owns st gs ds fs → gs.length = ds.length
  | _, _, _, .nil => rfl
  | _, _, _, .cons _ t => congrArg (· + 1) t.length
theorem Owns.ims {st : Store} : ∀ ps : List PV, Owns st (ps.map .im) (PV.ds ps) []
  | [] => .nil
  | p :: ps => .cons (f := []) (.im p) (Owns.ims ps)
theorem Own.im_inv {st : Store} {p : PV} {d : D} {fs : List Nat} (h : Own st (.im p) d fs) : d = p.d ∧ fs = [] := by
  cases h with
  | im => exact ⟨rfl, rfl⟩
  | obj h o => cases o
theorem Owns.ims_inv {st : Store} : ∀ {ps : List PV} {ds : List D} {fs : List Nat}, Owns st (ps.map .im) ds fs → ds = PV.ds ps ∧ fs = []
  | [], _, _, h => by cases h; exact ⟨rfl, rfl⟩
  | p :: ps, _, _, h => by
    cases h with
    | cons h t =>
      obtain ⟨rfl, rfl⟩ := h.im_inv
      obtain ⟨rfl, rfl⟩ := Owns.ims_inv t
      exact ⟨rfl, rfl⟩

/-! ### the slots: a pinned one tells its place -/
abbrev Slot := Option (Option Nat × G)
abbrev Sl := List Slot
abbrev sg (g : G) : Slot := some (none, g)
abbrev pn (n : Nat) (g : G) : Slot := some (some n, g)
inductive REs (st : Store) : Sl → Env → List Nat → Prop
  | nil : REs st [] [] []
  | no {Γ : Sl} {env : Env} {fs : List Nat} {x : Option D} (t : REs st Γ env fs) : REs st (none :: Γ) (x :: env) fs
  | yes {o : Option Nat} {g : G} {d : D} {f : List Nat} {Γ : Sl} {env : Env} {fs : List Nat} (h : Own st g d f) (p : ∀ n, o = some n → d = .ref n) (t : REs st Γ env fs) : REs st (some (o, g) :: Γ) (some d :: env) (f ++ fs)
section
variable {st st' : Store} {Γ : Sl} {env : Env} {fs : List Nat}
theorem REs.length : ∀ {Γ : Sl} {env : Env} {fs : List Nat}, REs st Γ env fs → Γ.length = env.length
  | _, _, _, .nil => rfl
  | _, _, _, .no t => congrArg (· + 1) t.length
  | _, _, _, .yes _ _ t => congrArg (· + 1) t.length
theorem REs.keep : ∀ {Γ : Sl} {env : Env} {fs : List Nat}, REs st Γ env fs → (∀ n ∈ fs, st'[n]? = st[n]?) → REs st' Γ env fs
  | _, _, _, .nil, _ => .nil
  | _, _, _, .no t, k => .no (t.keep k)
  | _, _, _, .yes h p t, k => .yes (h.keep fun n hn => k n (List.mem_append_left _ hn)) p (t.keep fun n hn => k n (List.mem_append_right _ hn))
/-- one slot is taken out -/
theorem REs.take : ∀ {Γ : Sl} {env : Env} {fs : List Nat} (i : Nat) {o : Option Nat} {g : G}, REs st Γ env fs → Γ[i]? = some (some (o, g)) →
    ∃ d f fs', env[i]? = some (some d) ∧ Own st g d f ∧ (∀ n, o = some n → d = .ref n) ∧ REs st (Γ.set i none) env fs' ∧ fs.Perm (f ++ fs')
  | _, _, _, _, _, _, .nil, e => by simp at e
  | _, _, _, 0, _, _, .no t, e => by simp at e
  | _, _, _, i + 1, _, _, .no t, e => by
    obtain ⟨d, f, fs', h1, h2, h3, h4, h5⟩ := t.take i (by simpa using e)
    exact ⟨d, f, fs', by simpa using h1, h2, h3, .no h4, h5⟩
  | _, _, _, 0, _, _, .yes h p t, e => by
    simp only [List.getElem?_cons_zero, Option.some.injEq, Prod.mk.injEq] at e
    obtain ⟨rfl, rfl⟩ := e
    exact ⟨_, _, _, rfl, h, p, .no t, List.Perm.refl _⟩
  | _, _, _, i + 1, _, _, .yes (f := f0) h p t, e => by
    obtain ⟨d, f, fs', h1, h2, h3, h4, h5⟩ := t.take i (by simpa using e)
    refine ⟨d, f, f0 ++ fs', by simpa using h1, h2, h3, .yes h p h4, ?_⟩
    exact (h5.append_left f0).trans (by rw [← List.append_assoc, ← List.append_assoc]; exact (List.perm_append_comm).append_right fs')
/-- and put in -/
theorem REs.put : ∀ {Γ : Sl} {env : Env} {fs : List Nat} (i : Nat) {o : Option Nat} {g : G} {d : D} {f : List Nat}, REs st Γ env fs → i < Γ.length → Own st g d f → (∀ n, o = some n → d = .ref n) →
    ∃ fs0 fs', REs st (Γ.set i (some (o, g))) (env.set i (some d)) fs' ∧ fs0.Sublist fs ∧ fs'.Perm (f ++ fs0)
  | _, _, _, _, _, _, _, _, .nil, e, _, _ => by simp at e
  | _, _, _, 0, _, _, _, _, .no t, _, h, p => ⟨_, _, .yes h p t, List.Sublist.refl _, List.Perm.refl _⟩
  | _, _, _, 0, _, _, _, _, .yes _ _ t, _, h, p => ⟨_, _, .yes h p t, List.sublist_append_right _ _, List.Perm.refl _⟩
  | _, _, _, i + 1, _, _, _, _, .no t, e, h, p => by
    obtain ⟨fs0, fs', h1, h2, h3⟩ := t.put i (by simpa using e) h p
    exact ⟨fs0, fs', .no h1, h2, h3⟩
  | _, _, _, i + 1, _, _, _, f, .yes (f := f1) h1 p1 t, e, h, p => by
    obtain ⟨fs0, fs', q1, q2, q3⟩ := t.put i (by simpa using e) h p
    refine ⟨f1 ++ fs0, f1 ++ fs', .yes h1 p1 q1, q2.append_left f1, ?_⟩
    exact (q3.append_left f1).trans (by rw [← List.append_assoc, ← List.append_assoc]; exact (List.perm_append_comm).append_right fs0)
theorem set_same {α : Type} : ∀ {l : List α} {i : Nat} {a : α}, l[i]? = some a → l.set i a = l
  | [], _, _, h => by simp at h
  | x :: l, 0, a, h => by simp at h; subst h; rfl
  | x :: l, i + 1, a, h => by
    show x :: l.set i a = x :: l
    rw [set_same (by simpa using h)]
end

/-- what is drawn of stands in the first two places -/
def Inv (B : List O → Prop) (st : Store) : Prop := BagAt.m ≤ st.length ∧ B (st.take BagAt.m)
/-- old objects speak of the store alone -/
def WfS (st : Store) : Prop := ∀ (i : Nat) (o : O), st[i]? = some o → OBl st.length o
structure Ok (B : List O → Prop) (fr : List Nat) (st : Store) : Prop where
  nd : fr.Nodup
  bd : ∀ n ∈ fr, BagAt.m ≤ n ∧ n < st.length
  inv : Inv B st
  wf : WfS st
section
variable {B : List O → Prop} {st st' : Store} {fr fr' : List Nat}
theorem Inv.two (h : Inv B st) : BagAt.m ≤ st.length := h.1
theorem Ok.two (h : Ok B fr st) : BagAt.m ≤ st.length := h.inv.two
theorem Ok.perm (h : Ok B fr st) (p : fr.Perm fr') : Ok B fr' st := ⟨p.nodup_iff.mp h.nd, fun n hn => h.bd n (p.mem_iff.mpr hn), h.inv, h.wf⟩
theorem Ok.sub (h : Ok B fr st) (p : fr'.Sublist fr) : Ok B fr' st := ⟨h.nd.sublist p, fun n hn => h.bd n (p.mem hn), h.inv, h.wf⟩
theorem Ok.left {a b : List Nat} (h : Ok B (a ++ b) st) : Ok B a st := h.sub (List.sublist_append_left _ _)
theorem Ok.right {a b : List Nat} (h : Ok B (a ++ b) st) : Ok B b st := h.sub (List.sublist_append_right _ _)
/-- what is kept of a store -/
structure Keep (fr : List Nat) (st st' : Store) : Prop where
  len : st.length ≤ st'.length
  get : ∀ n ∈ fr, st'[n]? = st[n]?
theorem Keep.refl : Keep fr st st := ⟨Nat.le_refl _, fun _ _ => rfl⟩
theorem Keep.trans {a b c : Store} (h : Keep fr a b) (k : Keep fr b c) : Keep fr a c := ⟨Nat.le_trans h.len k.len, fun n hn => (k.get n hn).trans (h.get n hn)⟩
theorem Keep.right {a b : List Nat} (h : Keep (a ++ b) st st') : Keep b st st' := ⟨h.len, fun n hn => h.get n (List.mem_append_right _ hn)⟩
theorem Keep.left {a b : List Nat} (h : Keep (a ++ b) st st') : Keep a st st' := ⟨h.len, fun n hn => h.get n (List.mem_append_left _ hn)⟩
theorem Keep.mono (h : Keep fr st st') (p : ∀ n ∈ fr', n ∈ fr) : Keep fr' st st' := ⟨h.len, fun n hn => h.get n (p n hn)⟩
/-- a new object -/
theorem Ok.push (h : Ok B fr st) {x : O} (hx : OBl st.length x) : Ok B (st.length :: fr) (st ++ [x]) := by
  refine ⟨List.nodup_cons.mpr ⟨fun z => Nat.lt_irrefl _ (h.bd _ z).2, h.nd⟩, fun n hn => ?_, ?_, fun i o e => ?_⟩
  · rcases List.mem_cons.mp hn with e | e
    · rw [e]; exact ⟨h.two, by simp⟩
    · have := h.bd n e; exact ⟨this.1, by simp; omega⟩
  · refine ⟨by simp; have := h.two; omega, ?_⟩
    rw [List.take_append_of_le_length h.two]
    exact h.inv.2
  · have hm : ∀ {n m : Nat} {o : O}, n ≤ m → OBl n o → OBl m o := by
      intro n m o hnm ho
      cases o with
      | lst xs => exact Bls.mono hnm ho
      | dK kvs => exact fun p hp => (ho p hp).mono hnm
      | dT kvs => exact fun p hp => (ho p hp).mono hnm
      | sT _ => trivial
      | sI _ => trivial
    by_cases hi : i < st.length
    · rw [List.getElem?_append_left hi] at e; exact hm (by simp) (h.wf i o e)
    · rw [List.getElem?_append_right (by omega)] at e
      have hi2 : i - st.length = 0 := by
        by_cases z : i - st.length = 0
        · exact z
        · rw [List.getElem?_eq_none (by simp; omega)] at e; cases e
      rw [hi2] at e
      have : o = x := by simpa using e.symm
      rw [this]; exact hm (by simp) hx
theorem keep_push {x : O} (h : ∀ n ∈ fr, n < st.length) : Keep fr st (st ++ [x]) := ⟨by simp, fun n hn => List.getElem?_append_left (h n hn)⟩
/-- an object is written -/
theorem Ok.set (h : Ok B fr st) {n : Nat} {x : O} (hn : BagAt.m ≤ n) (hx : OBl st.length x) : Ok B fr (st.set n x) := by
  refine ⟨h.nd, fun m hm => by simpa using h.bd m hm, ?_, fun i o e => ?_⟩
  · refine ⟨by rw [List.length_set]; exact h.two, ?_⟩
    rw [List.take_set_of_le hn]
    exact h.inv.2
  · rw [List.length_set]
    by_cases hi : n = i
    · subst hi
      by_cases hl : n < st.length
      · rw [List.getElem?_set_self hl] at e; cases e; exact hx
      · rw [List.getElem?_eq_none (by simp; omega)] at e; cases e
    · rw [List.getElem?_set_ne hi] at e; exact h.wf i o e
theorem keep_set {n : Nat} {x : O} (h : n ∉ fr) : Keep fr st (st.set n x) := ⟨by simp, fun m hm => List.getElem?_set_ne (fun e => by subst e; exact h hm)⟩
end
end Fx

set_option Elab.async false
set_option linter.all false
set_option maxRecDepth 100000
set_option maxHeartbeats 4000000
set_option autoImplicit false
/-! Fx, part W: what a text does, told over plain typed values: W; the judgements. -/
namespace Fx
open PySem PySem.Spec PyProof.Rows L2
variable [BagAt]

structure Xc where
  cls : Str
  fs : List (Str × PV)
def Xc.ex (x : Xc) : Ex := ⟨x.cls, x.fs.map fun p => (p.1, p.2.d)⟩
/-- what is asked of an answer, and of an error, to what is asked ahead -/
def W (α : Type) : Type := (α → Prop) → (Xc → Prop) → Prop
namespace W
variable {α β : Type}
def pure (a : α) : W α := fun Q _ => Q a
def bind (m : W α) (k : α → W β) : W β := fun Q X => m (fun a => k a Q X) X
def fail : W α := fun _ _ => False
def raise (x : Xc) : W α := fun _ X => X x
def need (p : Prop) (m : W α) : W α := fun Q X => p ∧ m Q X
def some (p : α → Prop) : W α := fun Q _ => ∀ a, p a → Q a
def ofO (o : Option α) : W α := fun Q _ => ∃ a, o = Option.some a ∧ Q a
def map (f : α → β) (m : W α) : W β := fun Q X => m (fun a => Q (f a)) X
def nox (m : W α) : W α := fun Q _ => m Q fun _ => False
def ite (b : Bool) (m n : W α) : W α := match b with
  | true => m
  | false => n
end W

def OutP {α : Type} (o : Out α) (P : α → Store → Prop) (E : Ex → Store → Prop) : Prop := match o with
  | .ok a s => P a s
  | .exc e s => E e s
  | .stuck => False
section
variable {α β : Type} {o : Out α} {P P' : α → Store → Prop} {E E' : Ex → Store → Prop}
theorem OutP.mono (h : OutP o P E) (p : ∀ a s, P a s → P' a s) (e : ∀ x s, E x s → E' x s) : OutP o P' E' := by
  cases o with
  | ok a s => exact p a s h
  | exc x s => exact e x s h
  | stuck => exact h.elim
theorem OutP.bind {k : α → Store → Out β} {R : β → Store → Prop} (h : OutP o P E) (p : ∀ a s, P a s → OutP (k a s) R E') (e : ∀ x s, E x s → E' x s) : OutP (o.bind k) R E' := by
  cases o with
  | ok a s => exact p a s h
  | exc x s => exact e x s h
  | stuck => exact h.elim
end

/-- the slots hold what they hold, beside what is kept for others -/
def Rel (B : List O → Prop) (Γ : Sl) (fr : List Nat) (env : Env) (st : Store) : Prop := ∃ fs, REs st Γ env fs ∧ Ok B (fs ++ fr) st
section
variable {B : List O → Prop} {Γ : Sl} {fr fr' : List Nat} {env : Env} {st st' : Store}
theorem Rel.ok (h : Rel B Γ fr env st) : Ok B fr st := let ⟨_, _, k⟩ := h; k.right
theorem Rel.two (h : Rel B Γ fr env st) : BagAt.m ≤ st.length := h.ok.two
theorem Rel.perm (h : Rel B Γ fr env st) (p : fr.Perm fr') : Rel B Γ fr' env st := let ⟨fs, r, k⟩ := h; ⟨fs, r, k.perm (p.append_left fs)⟩
theorem Rel.sub (h : Rel B Γ fr env st) (p : fr'.Sublist fr) : Rel B Γ fr' env st := let ⟨fs, r, k⟩ := h; ⟨fs, r, k.sub (p.append_left fs)⟩
theorem Rel.weak {a : List Nat} (h : Rel B Γ (a ++ fr) env st) : Rel B Γ fr env st := h.sub (List.sublist_append_right _ _)
theorem Rel.len (h : Rel B Γ fr env st) : Γ.length = env.length := let ⟨_, r, _⟩ := h; r.length
theorem Rel.lt (h : Rel B Γ fr env st) : ∀ n ∈ fr, n < st.length := fun n hn => (h.ok.bd n hn).2
theorem Rel.push (h : Rel B Γ fr env st) {x : O} (hx : OBl st.length x) : Rel B Γ (st.length :: fr) env (st ++ [x]) := by
  obtain ⟨fs, r, k⟩ := h
  refine ⟨fs, r.keep fun n hn => List.getElem?_append_left (k.bd n (List.mem_append_left _ hn)).2, ?_⟩
  exact (k.push hx).perm List.perm_middle.symm
theorem Rel.take (h : Rel B Γ fr env st) {i : Nat} {o : Option Nat} {g : G} (e : Γ[i]? = some (some (o, g))) :
    ∃ d f, env[i]? = some (some d) ∧ Own st g d f ∧ (∀ n, o = some n → d = .ref n) ∧ Rel B (Γ.set i none) (f ++ fr) env st := by
  obtain ⟨fs, r, k⟩ := h
  obtain ⟨d, f, fs', h1, h2, h3, h4, h5⟩ := r.take i e
  refine ⟨d, f, h1, h2, h3, fs', h4, k.perm ?_⟩
  refine (h5.append_right fr).trans ?_
  rw [← List.append_assoc]
  exact (List.perm_append_comm).append_right fr
theorem Rel.read (h : Rel B Γ fr env st) {i : Nat} {o : Option Nat} {g : G} (e : Γ[i]? = some (some (o, g))) : ∃ d f, env[i]? = some (some d) ∧ Own st g d f ∧ (∀ n, o = some n → d = .ref n) := by
  obtain ⟨d, f, h1, h2, h3, _⟩ := h.take e
  exact ⟨d, f, h1, h2, h3⟩
theorem Rel.assign {f : List Nat} (h : Rel B Γ (f ++ fr) env st) {i : Nat} {o : Option Nat} {g : G} {d : D} (hi : i < Γ.length) (w : Own st g d f) (p : ∀ n, o = some n → d = .ref n) : Rel B (Γ.set i (some (o, g))) fr (env.set i (some d)) st := by
  obtain ⟨fs, r, k⟩ := h
  obtain ⟨fs0, fs', h1, h2, h3⟩ := r.put i hi w p
  refine ⟨fs', h1, ?_⟩
  have k1 : Ok B (fs0 ++ (f ++ fr)) st := k.sub (h2.append_right _)
  refine k1.perm ?_
  refine List.Perm.trans ?_ (h3.symm.append_right fr)
  rw [← List.append_assoc]
  exact (List.perm_append_comm).append_right fr
theorem Rel.back {f : List Nat} (h : Rel B Γ (f ++ fr) env st) {i : Nat} {o : Option Nat} {g : G} {d : D} (hi : i < Γ.length) (e : env[i]? = some (some d)) (w : Own st g d f) (p : ∀ n, o = some n → d = .ref n) : Rel B (Γ.set i (some (o, g))) fr env st := by
  have := h.assign hi w p
  rwa [set_same e] at this
/-- something is forgotten -/
inductive Less : Sl → Sl → Prop
  | nil : Less [] []
  | no {a : Slot} {Γ Γ' : Sl} (t : Less Γ Γ') : Less (none :: Γ) (a :: Γ')
  | yes {a : Slot} {Γ Γ' : Sl} (t : Less Γ Γ') : Less (a :: Γ) (a :: Γ')
  | un {n : Option Nat} {g : G} {Γ Γ' : Sl} (t : Less Γ Γ') : Less (some (none, g) :: Γ) (some (n, g) :: Γ')
theorem REs.less {st : Store} : ∀ {Γ Γ' : Sl} {env : Env} {fs : List Nat}, Less Γ Γ' → REs st Γ' env fs → ∃ fs', REs st Γ env fs' ∧ fs'.Sublist fs
  | _, _, _, _, .nil, .nil => ⟨[], .nil, List.Sublist.refl _⟩
  | _, _, _, _, .no t, .no r => let ⟨fs', h1, h2⟩ := r.less t; ⟨fs', .no h1, h2⟩
  | _, _, _, _, .no t, .yes _ _ r => let ⟨fs', h1, h2⟩ := r.less t; ⟨fs', .no h1, h2.trans (List.sublist_append_right _ _)⟩
  | _, _, _, _, .yes t, .no r => let ⟨fs', h1, h2⟩ := r.less t; ⟨fs', .no h1, h2⟩
  | _, _, _, _, .yes t, .yes h p r => let ⟨fs', h1, h2⟩ := r.less t; ⟨_, .yes h p h1, h2.append_left _⟩
  | _, _, _, _, .un t, .yes h p r => let ⟨fs', h1, h2⟩ := r.less t; ⟨_, .yes h (fun n e => nomatch e) h1, h2.append_left _⟩
theorem Rel.less {Γ' : Sl} (h : Rel B Γ' fr env st) (l : Less Γ Γ') : Rel B Γ fr env st := by
  obtain ⟨fs, r, k⟩ := h
  obtain ⟨fs', r', s⟩ := r.less l
  exact ⟨fs', r', k.sub (s.append_right fr)⟩
end

/-! ### judgements -/
def XP (B : List O → Prop) (X : Xc → Prop) (fr : List Nat) (st0 : Store) : Ex → Store → Prop := fun e s => ∃ x : Xc, e = x.ex ∧ X x ∧ Ok B fr s ∧ Keep fr st0 s
/-- what the slots hold can be read -/
structure RdS (Γ : Sl) (env : Env) (st : Store) : Prop where
  len : Γ.length = env.length
  get : ∀ (i : Nat) (o : Option Nat) (g : G), Γ[i]? = some (some (o, g)) → ∃ d f, env[i]? = some (some d) ∧ Own st g d f
theorem Rel.rd {B : List O → Prop} {Γ : Sl} {fr : List Nat} {env : Env} {st : Store} (h : Rel B Γ fr env st) : RdS Γ env st := ⟨h.len, fun i o g e => let ⟨d, f, h1, h2, _⟩ := h.read e; ⟨d, f, h1, h2⟩⟩
/-- a value that is just there -/
def WV (Γ : Sl) (f : FE) (p : PV) : Prop := ∀ env st, RdS Γ env st → f env st = .ok (.v p.d) st
/-- a value that is looked at, if it is there -/
def WP (Γ : Sl) (f : FE) {α : Type} (m : W α) (v : α → G) : Prop := ∀ env st Q X, RdS Γ env st → m Q X → ∃ a r fv, Q a ∧ f env st = .ok r st ∧ ROwn st r (v a) fv
/-- a test that is just there -/
def WB (Γ : Sl) (c : FB) (b : Bool) : Prop := ∀ env st, RdS Γ env st → c env st = .ok b st
def WQ (Γ : Sl) (c : FB) (m : W Bool) : Prop := ∀ env st Q X, RdS Γ env st → m Q X → ∃ b, Q b ∧ c env st = .ok b st
section
variable (B : List O → Prop)
/-- a value that is ours -/
def WE (Γ : Sl) (f : FE) {α : Type} (m : W α) (v : α → G) (Γ' : α → Sl) : Prop := ∀ fr env st Q X, Rel B Γ fr env st → m Q X →
  OutP (f env st) (fun r s => ∃ a fv, Q a ∧ ROwn s r (v a) fv ∧ Rel B (Γ' a) (fv ++ fr) env s ∧ Keep fr st s) (XP B X fr st)
def WT (Γ : Sl) (c : FB) (m : W Bool) : Prop := ∀ fr env st Q X, Rel B Γ fr env st → m Q X →
  OutP (c env st) (fun b s => Q b ∧ Rel B Γ fr env s ∧ Keep fr st s) (XP B X fr st)
end

section
variable {B : List O → Prop} {Γ : Sl} {f fa fb fc : FE} {α β γ : Type} {fr : List Nat} {env : Env} {st st' st2 : Store} {X : Xc → Prop}
theorem XP.keep {fr' : List Nat} (k : Keep fr st st2) (s : ∀ n ∈ fr, n ∈ fr') (sl : fr.Sublist fr') {e : Ex} {s' : Store} (h : XP B X fr' st2 e s') : XP B X fr st e s' := by
  obtain ⟨x, h1, h2, h3, h4⟩ := h
  exact ⟨x, h1, h2, h3.sub sl, k.trans (h4.mono s)⟩
theorem XP.app {a : List Nat} (k : Keep fr st st2) {e : Ex} {s' : Store} (h : XP B X (a ++ fr) st2 e s') : XP B X fr st e s' := h.keep k (fun _ h => List.mem_append_right _ h) (List.sublist_append_right _ _)
theorem XP.same (k : Keep fr st st2) {e : Ex} {s' : Store} (h : XP B X fr st2 e s') : XP B X fr st e s' := h.keep k (fun _ h => h) (List.Sublist.refl _)

/-- shapes of values: e at the end tells that nothing is held -/
abbrev gM {α : Type} (e : α → PV) : α → G := fun a => .im (e a)
theorem wp_v {p : PV} (h : WV Γ f p) : WP Γ f (W.pure ()) (fun _ => .im p) := fun env st Q X r q => ⟨(), _, [], q, h env st r, .v (.im p)⟩
theorem wp_pure {e : α → PV} {a : α} (h : WV Γ f (e a)) : WP Γ f (W.pure a) (gM e) := fun env st Q X r q => ⟨a, _, [], q, h env st r, .v (.im _)⟩
/-- values that hold nothing when they are new -/
inductive Flat : G → Prop
  | im (p : PV) : Flat (.im p)
  | bag : Flat .bag
theorem Own.flat {st : Store} {g : G} {d : D} {fs : List Nat} (f : Flat g) (h : Own st g d fs) : fs = [] := by
  cases f with
  | im p => exact h.im_inv.2
  | bag => cases h with
    | bag => rfl
    | obj h o => cases o
theorem ROwn.flat {st : Store} {g : G} {r : R} {fs : List Nat} (f : Flat g) (h : ROwn st r g fs) : fs = [] := by
  cases h with
  | v h => exact h.flat f
  | o h => cases f with
    | im p => cases h
    | bag => cases h
theorem we_p {m : W α} {v : α → G} (h : WP Γ f m v) (hf : ∀ a, Flat (v a)) : WE B Γ f m v (fun _ => Γ) := fun fr env st Q X r q => by
  obtain ⟨a, r', fv, h1, h2, h3⟩ := h env st Q X r.rd q
  have := h3.flat (hf a)
  subst this
  rw [h2]
  exact ⟨a, [], h1, h3, r, .refl⟩
theorem we_pm {m : W α} {e : α → PV} (h : WP Γ f m (gM e)) : WE B Γ f m (gM e) (fun _ => Γ) := we_p h fun a => .im _
theorem we_v {e : α → PV} {a : α} (h : WV Γ f (e a)) : WE B Γ f (W.pure a) (gM e) (fun _ => Γ) := we_pm (wp_pure h)
theorem wp_name {i : Nat} {o : Option Nat} {v : α → G} {a : α} (h : Γ[i]? = some (some (o, v a))) : WP Γ (fName i) (W.pure a) v := fun env st Q X r q => by
  obtain ⟨d, f, h1, h2⟩ := r.get _ _ _ h
  exact ⟨a, _, f, q, ev_name h1, .v h2⟩
theorem wv_name {i : Nat} {o : Option Nat} {p : PV} (h : Γ[i]? = some (some (o, .im p))) : WV Γ (fName i) p := fun env st r => by
  obtain ⟨d, f, h1, h2⟩ := r.get _ _ _ h
  rw [h2.im_inv.1] at h1
  exact ev_name h1
theorem we_bag {i : Nat} {o : Option Nat} (h : Γ[i]? = some (some (o, .bag))) : WE B Γ (fName i) (W.pure ()) (fun _ => .bag) (fun _ => Γ) := we_p (wp_name (v := fun _ : Unit => G.bag) (a := ()) h) fun _ => .bag
/-- a list that is handed on: its name is empty from then on -/
theorem we_move {i : Nat} {o : Option Nat} {v : α → G} {a : α} (h : Γ[i]? = some (some (o, v a))) : WE B Γ (fName i) (W.pure a) v (fun _ => Γ.set i none) := fun fr env st Q X r q => by
  obtain ⟨d, f, h1, h2, _, h4⟩ := r.take h
  rw [ev_name h1]
  exact ⟨a, f, q, .v h2, h4, .refl⟩
theorem wv_c (p : PV) : WV Γ (fC p.d) p := fun _ _ _ => rfl
theorem wv_int (i : Int) : WV Γ (fC (.int i)) (.int i) := fun _ _ _ => rfl
theorem wv_str (i : Str) : WV Γ (fC (.str i)) (.str i) := fun _ _ _ => rfl
theorem wv_bl (i : Bool) : WV Γ (fC (.bl i)) (.bl i) := fun _ _ _ => rfl
theorem wv_non : WV Γ (fC .non) .non := fun _ _ _ => rfl
theorem we_ignore {m : W α} {v : α → G} {Γ' : α → Sl} (h : WE B Γ f m v Γ') : True := trivial

/-! ### operations -/
abbrev Op2W (g : F2) (va : α → G) (vb : β → G) (op : α → β → W γ) (vc : γ → G) : Prop :=
  ∀ (st : Store) (a : α) (b : β) (ra rb : R) (f1 f2 : List Nat) (Q : γ → Prop) (X : Xc → Prop), ROwn st ra (va a) f1 → ROwn st rb (vb b) f2 → op a b Q X → ∃ c rc, Q c ∧ g ra rb st = .ok rc st ∧ ROwn st rc (vc c) []
abbrev Op2R (g : F2) (va : α → G) (vb : β → G) (op : α → β → W γ) (vc : γ → G) : Prop :=
  ∀ (st : Store) (a : α) (b : β) (ra rb : R) (f1 f2 : List Nat) (Q : γ → Prop) (X : Xc → Prop), ROwn st ra (va a) f1 → ROwn st rb (vb b) f2 → op a b Q X → ∃ c rc f3, Q c ∧ g ra rb st = .ok rc st ∧ ROwn st rc (vc c) f3
abbrev Op1W (g : R → Store → Out R) (va : α → G) (op : α → W γ) (vc : γ → G) : Prop :=
  ∀ (st : Store) (a : α) (ra : R) (f1 : List Nat) (Q : γ → Prop) (X : Xc → Prop), ROwn st ra (va a) f1 → op a Q X → ∃ c rc, Q c ∧ g ra st = .ok rc st ∧ ROwn st rc (vc c) []
variable {g : F2} {g1 : R → Store → Out R} {va : α → G} {vb : β → G} {vc : γ → G} {op : α → β → W γ} {op1 : α → W γ} {m : W α} {n : W β}
theorem Op2W.r (h : Op2W g va vb op vc) : Op2R g va vb op vc := fun st a b ra rb f1 f2 Q X h1 h2 q => let ⟨c, rc, k1, k2, k3⟩ := h st a b ra rb f1 f2 Q X h1 h2 q; ⟨c, rc, [], k1, k2, k3⟩
theorem wp_bin (hg : Op2R g va vb op vc) (ha : WP Γ fa m va) (hb : WP Γ fb n vb) : WP Γ (fBin g fa fb) (m.bind fun a => n.bind fun b => op a b) vc := fun env st Q X r q => by
  obtain ⟨a, ra, f1, q1, e1, o1⟩ := ha env st _ X r q
  obtain ⟨b, rb, f2, q2, e2, o2⟩ := hb env st _ X r q1
  obtain ⟨c, rc, f3, q3, e3, o3⟩ := hg st a b ra rb f1 f2 Q X o1 o2 q2
  exact ⟨c, rc, f3, q3, (ev_bin e1 e2).trans e3, o3⟩
theorem wp_bin' (hg : Op2W g va vb op vc) (ha : WP Γ fa m va) (hb : WP Γ fb n vb) : WP Γ (fBin g fa fb) (m.bind fun a => n.bind fun b => op a b) vc := wp_bin hg.r ha hb
/-- a new list of two that are looked at -/
theorem we_binPP (hg : Op2W g va vb op vc) (ha : WP Γ fa m va) (hb : WP Γ fb n vb) : WE B Γ (fBin g fa fb) (m.bind fun a => n.bind fun b => op a b) vc (fun _ => Γ) := fun fr env st Q X r q => by
  obtain ⟨a, ra, f1, q1, e1, o1⟩ := ha env st _ X r.rd q
  obtain ⟨b, rb, f2, q2, e2, o2⟩ := hb env st _ X r.rd q1
  obtain ⟨c, rc, q3, e3, o3⟩ := hg st a b ra rb f1 f2 Q X o1 o2 q2
  rw [(ev_bin e1 e2).trans e3]
  exact ⟨c, [], q3, o3, r, .refl⟩
theorem OutP.bin {ra : R} {P : R → Store → Prop} {E : Ex → Store → Prop} (e1 : fa env st = .ok ra st) (h : OutP ((fb env st).bind fun rb s => g ra rb s) P E) : OutP (fBin g fa fb env st) P E := by
  unfold fBin; rw [e1]; exact h
/-- first a value, then what is ours -/
theorem we_binVE {ea : α → PV} {a : α} (hg : Op2W g (gM ea) vb op vc) (ha : WV Γ fa (ea a)) (hb : WE B Γ fb n vb fun _ => Γ) : WE B Γ (fBin g fa fb) (n.bind fun b => op a b) vc (fun _ => Γ) := fun fr env st Q X r q => by
  refine OutP.bin (ha env st r.rd) ((hb fr env st _ X r q).bind (fun rb s h => ?_) fun e s h => h)
  obtain ⟨b, fv, q1, o1, r1, k1⟩ := h
  obtain ⟨c, rc, q3, e3, o3⟩ := hg s a b _ rb [] fv _ X (.v (.im _)) o1 q1
  show OutP (g _ _ _) _ _
  rw [e3]
  exact ⟨c, [], q3, o3, r1.weak, k1⟩
/-- first what is ours, then what is looked at -/
theorem we_binEP (hg : Op2W g va vb op vc) (ha : WE B Γ fa m va fun _ => Γ) (hb : WP Γ fb n vb) : WE B Γ (fBin g fa fb) (m.bind fun a => n.bind fun b => op a b) vc (fun _ => Γ) := fun fr env st Q X r q => by
  unfold fBin
  refine (ha fr env st _ X r q).bind (fun ra s h => ?_) fun e s h => h
  obtain ⟨a, fv, q1, o1, r1, k1⟩ := h
  obtain ⟨b, rb, f2, q2, e2, o2⟩ := hb env s _ X r1.rd q1
  obtain ⟨c, rc, q3, e3, o3⟩ := hg s a b ra rb fv f2 Q X o1 o2 q2
  rw [e2]
  show OutP (g _ _ _) _ _
  rw [e3]
  exact ⟨c, [], q3, o3, r1.weak, k1⟩
/-- both ours; the slots stay -/
theorem we_binEE (hg : Op2W g va vb op vc) (ha : WE B Γ fa m va fun _ => Γ) (hb : WE B Γ fb n vb fun _ => Γ) : WE B Γ (fBin g fa fb) (m.bind fun a => n.bind fun b => op a b) vc (fun _ => Γ) := fun fr env st Q X r q => by
  unfold fBin
  refine (ha fr env st _ X r q).bind (fun ra s h => ?_) fun e s h => h
  obtain ⟨a, fv, q1, o1, r1, k1⟩ := h
  refine (hb _ env s _ X r1 q1).bind (fun rb s2 h => ?_) fun e s2 h => h.app k1
  obtain ⟨b, fv2, q2, o2, r2, k2⟩ := h
  obtain ⟨c, rc, q3, e3, o3⟩ := hg s2 a b ra rb fv fv2 Q X (o1.keep fun n hn => k2.get n (List.mem_append_left _ hn)) o2 q2
  rw [e3]
  exact ⟨c, [], q3, o3, r2.weak.weak, k1.trans k2.right⟩
/-- first what a name holds, then what is ours -/
theorem we_binNE {i : Nat} {o : Option Nat} {a : α} (hg : Op2W g va vb op vc) (ha : Γ[i]? = some (some (o, va a))) (hb : WE B Γ fb n vb fun _ => Γ) : WE B Γ (fBin g (fName i) fb) (n.bind fun b => op a b) vc (fun _ => Γ) := fun fr env st Q X r q => by
  obtain ⟨d, f0, h1, h2, _⟩ := r.read ha
  refine OutP.bin (ev_name h1) ((hb fr env st _ X r q).bind (fun rb s h => ?_) fun e s h => h)
  obtain ⟨b, fv, q1, o1, r1, k1⟩ := h
  obtain ⟨d', f1, h1', h2', _⟩ := r1.read ha
  rw [h1] at h1'; cases h1'
  obtain ⟨c, rc, q3, e3, o3⟩ := hg s a b _ rb _ fv _ X (.v h2') o1 q1
  show OutP (g _ _ _) _ _
  rw [e3]
  exact ⟨c, [], q3, o3, r1.weak, k1⟩
theorem wp_un (hg : Op1W g1 va op1 vc) (ha : WP Γ fa m va) : WP Γ (fCall1 g1 fa) (m.bind op1) vc := fun env st Q X r q => by
  obtain ⟨a, ra, f1, q1, e1, o1⟩ := ha env st _ X r q
  obtain ⟨c, rc, q3, e3, o3⟩ := hg st a ra f1 Q X o1 q1
  exact ⟨c, rc, [], q3, (ev_call1 e1).trans e3, o3⟩
theorem we_unP (hg : Op1W g1 va op1 vc) (ha : WP Γ fa m va) : WE B Γ (fCall1 g1 fa) (m.bind op1) vc (fun _ => Γ) := fun fr env st Q X r q => by
  obtain ⟨a, ra, f1, q1, e1, o1⟩ := ha env st _ X r.rd q
  obtain ⟨c, rc, q3, e3, o3⟩ := hg st a ra f1 Q X o1 q1
  rw [(ev_call1 e1).trans e3]
  exact ⟨c, [], q3, o3, r, .refl⟩
theorem we_un (hg : Op1W g1 va op1 vc) (ha : WE B Γ fa m va fun _ => Γ) : WE B Γ (fCall1 g1 fa) (m.bind op1) vc (fun _ => Γ) := fun fr env st Q X r q => by
  unfold fCall1
  refine (ha fr env st _ X r q).bind (fun ra s h => ?_) fun e s h => h
  obtain ⟨a, fv, q1, o1, r1, k1⟩ := h
  obtain ⟨c, rc, q3, e3, o3⟩ := hg s a ra fv Q X o1 q1
  rw [e3]
  exact ⟨c, [], q3, o3, r1.weak, k1⟩
end
end Fx

set_option Elab.async false
set_option linter.all false
set_option maxRecDepth 100000
set_option maxHeartbeats 4000000
set_option autoImplicit false
/-! Fx, part X: arguments, calls, defs. -/
namespace Fx
open PySem PySem.Spec PyProof.Rows L2
variable [BagAt]

/-! ### what a call leaves of the store -/
theorem Own.ref_inv {st : Store} {g : G} {m : Nat} {fs : List Nat} (h : Own st g (.ref m) fs) : m = BagAt.n ∨ ∃ x f, st[m]? = some x ∧ OOwn st x g f ∧ fs = m :: f := by
  generalize e : D.ref m = d at h
  cases h with
  | im p => cases p <;> simp [PV.d] at e
  | bag => cases e; exact .inl rfl
  | obj h o => cases e; exact .inr ⟨_, _, h, o, rfl⟩
  | tp o => cases e
theorem perm_sw {α : Type} (a b c : List α) : (a ++ (b ++ c)).Perm (b ++ (a ++ c)) := by
  rw [← List.append_assoc, ← List.append_assoc]; exact (List.perm_append_comm).append_right _
section
variable {B : List O → Prop} {st s : Store} {fr F F' : List Nat}
theorem obl_mono {n m : Nat} {o : O} (hnm : n ≤ m) (ho : OBl n o) : OBl m o := by
  cases o with
  | lst xs => exact Bls.mono hnm ho
  | dK kvs => exact fun p hp => (ho p hp).mono hnm
  | dT kvs => exact fun p hp => (ho p hp).mono hnm
  | sT _ => trivial
  | sI _ => trivial
theorem old_w (w : WfS st) (h : OldOk st s) : ∀ i o, i < st.length → s[i]? = some o → OBl st.length o := fun i o hi e => by
  rcases h.2 i o hi e with q | q
  · exact w i o q
  · exact q
theorem take_get {n : Nat} (h : n < st.length) : (s.take st.length)[n]? = s[n]? := List.getElem?_take_of_lt h
theorem Ok.cut (h : Ok B F s) (o : OldOk st s) (w : WfS st) (h2 : BagAt.m ≤ st.length) (p : F'.Sublist F) (b : ∀ n ∈ F', n < st.length) : Ok B F' (s.take st.length) := by
  have hl := o.1
  have hlen : (s.take st.length).length = st.length := by rw [List.length_take]; omega
  refine ⟨h.nd.sublist p, fun n hn => ⟨(h.bd n (p.mem hn)).1, by rw [hlen]; exact b n hn⟩, ?_, fun i ob e => ?_⟩
  · refine ⟨by rw [hlen]; exact h2, ?_⟩
    rw [List.take_take, Nat.min_eq_left h2]
    exact h.inv.2
  · have hi : i < st.length := by rw [← hlen]; exact (List.getElem?_eq_some_iff.mp e).1
    rw [take_get hi] at e
    rw [hlen]
    exact old_w w o i ob hi e
theorem Keep.cut (k : Keep fr st s) (b : ∀ n ∈ fr, n < st.length) : Keep fr st (s.take st.length) := by
  have hl := k.len
  exact ⟨by rw [List.length_take]; omega, fun n hn => by rw [take_get (b n hn)]; exact k.get n hn⟩
/-- what holds of a result and of the slots holds behind a call as well -/
theorem gc_rel {α : Type} {Γ : Sl} {env : Env} {o : Out R} {v : α → G} {Γ' : α → Sl} {Q : α → Prop} {X : Xc → Prop} (hR : Ok B fr st) (hE : ∀ (a : α) (i : Nat) (d : D), (∃ z : Option Nat × G, (Γ' a)[i]? = some (some z)) → env[i]? = some (some d) → Bl st.length d)
    (h : OutP o (fun r s => ∃ a fv, Q a ∧ ROwn s r (v a) fv ∧ Rel B (Γ' a) (fv ++ fr) env s ∧ Keep fr st s) (XP B X fr st)) :
    OutP (gc st o) (fun r s => ∃ a fv, Q a ∧ ROwn s r (v a) fv ∧ Rel B (Γ' a) (fv ++ fr) env s ∧ Keep fr st s) (XP B X fr st) := by
  have h2 := hR.two
  have hfr : ∀ n ∈ fr, n < st.length := fun n hn => (hR.bd n hn).2
  have slots : ∀ {a : α} {s : Store} {fs : List Nat} (ok : OldOk st s), REs s (Γ' a) env fs → (∀ n ∈ fs, n < st.length) ∧ REs (s.take st.length) (Γ' a) env fs := by
    intro a s fs ok r
    have key : ∀ (Δ : Sl) (en : Env) (fs : List Nat), (∀ (i : Nat) (d : D), (∃ z : Option Nat × G, Δ[i]? = some (some z)) → en[i]? = some (some d) → Bl st.length d) → REs s Δ en fs → ∀ n ∈ fs, n < st.length := by
      intro Δ en fs hb r
      induction r with
      | nil => simp
      | no t ih => exact ih fun i d hz he => hb (i + 1) d (by simpa using hz) (by simpa using he)
      | yes hw p t ih =>
        intro n hn
        rcases List.mem_append.mp hn with q | q
        · exact hw.old (old_w hR.wf ok) (hb 0 _ ⟨_, rfl⟩ rfl) n q
        · exact ih (fun i d hz he => hb (i + 1) d (by simpa using hz) (by simpa using he)) n q
    have hl := key _ _ _ (hE a) r
    exact ⟨hl, r.keep fun n hn => take_get (hl n hn)⟩
  cases o with
  | stuck => exact h.elim
  | exc e s =>
    obtain ⟨x, h1, h3, h4, h5⟩ := h
    unfold gc
    by_cases ok : OldOk st s ∧ EBl st.length e
    · simp only [if_pos ok]
      exact ⟨x, h1, h3, h4.cut ok.1 hR.wf h2 (List.Sublist.refl _) hfr, h5.cut hfr⟩
    · simp only [if_neg ok]
      exact ⟨x, h1, h3, h4, h5⟩
  | ok r s =>
    obtain ⟨a, fv, q, w, ⟨fs, hr, hk⟩, k⟩ := h
    have stay : OutP (.ok r s) (fun r s => ∃ a fv, Q a ∧ ROwn s r (v a) fv ∧ Rel B (Γ' a) (fv ++ fr) env s ∧ Keep fr st s) (XP B X fr st) := ⟨a, fv, q, w, ⟨fs, hr, hk⟩, k⟩
    unfold gc
    by_cases ok : OldOk st s
    · simp only [if_pos ok]
      obtain ⟨b1, b2⟩ := slots ok hr
      have fin : ∀ (r' : R) (fv' : List Nat), fv'.Sublist fv → ROwn s r' (v a) fv' → (∀ n ∈ fv', n < st.length) → OutP (.ok r' (s.take st.length)) (fun r s => ∃ a fv, Q a ∧ ROwn s r (v a) fv ∧ Rel B (Γ' a) (fv ++ fr) env s ∧ Keep fr st s) (XP B X fr st) := by
        intro r' fv' sl w' b
        refine ⟨a, fv', q, w'.keep fun n hn => take_get (b n hn), ⟨fs, b2, hk.cut ok hR.wf h2 ((sl.append_right fr).append_left fs) fun n hn => ?_⟩, k.cut hfr⟩
        rcases List.mem_append.mp hn with z | z
        · exact b1 n z
        · rcases List.mem_append.mp z with z | z
          · exact b n z
          · exact hfr n z
      cases r with
      | o x =>
        simp only
        split
        · rename_i bx
          cases w with
          | o w => exact fin _ _ (List.Sublist.refl _) (.o w) (w.old (old_w hR.wf ok) bx)
        · exact stay
      | v d =>
        simp only
        split
        · rename_i bd
          cases w with
          | v w => exact fin _ _ (List.Sublist.refl _) (.v w) (w.old (old_w hR.wf ok) bd)
        · rename_i nb
          split
          · rename_i m
            split
            · rename_i x hx
              split
              · rename_i bx
                cases w with
                | v w =>
                  rcases w.ref_inv with e1 | ⟨x', f', h0, o0, rfl⟩
                  · exact absurd (.ref (by rw [e1]; exact Nat.lt_of_lt_of_le BagAt.h h2)) nb
                  · rw [hx] at h0; cases h0
                    exact fin _ _ (List.sublist_cons_self _ _) (.o o0) (o0.old (old_w hR.wf ok) bx)
              · exact stay
            · exact stay
          · exact stay
    · simp only [if_neg ok]
      exact stay
end

/-! ### arguments -/
inductive Arg where
  | own (g : G) | var (i : Nat)
inductive AOwn (st : Store) (env : Env) : List Arg → List D → List Nat → Prop
  | nil : AOwn st env [] [] []
  | own {g : G} {d : D} {f : List Nat} {as : List Arg} {ds : List D} {fs : List Nat} (h : Own st g d f) (t : AOwn st env as ds fs) : AOwn st env (.own g :: as) (d :: ds) (f ++ fs)
  | var {i : Nat} {d : D} {as : List Arg} {ds : List D} {fs : List Nat} (h : env[i]? = some (some d)) (t : AOwn st env as ds fs) : AOwn st env (.var i :: as) (d :: ds) fs
theorem AOwn.keep {st st' : Store} {env : Env} : ∀ {as : List Arg} {ds : List D} {fs : List Nat}, AOwn st env as ds fs → (∀ n ∈ fs, st'[n]? = st[n]?) → AOwn st' env as ds fs
  | _, _, _, .nil, _ => .nil
  | _, _, _, .own h t, k => .own (h.keep fun n hn => k n (List.mem_append_left _ hn)) (t.keep fun n hn => k n (List.mem_append_right _ hn))
  | _, _, _, .var h t, k => .var h (t.keep k)
/-- the slots that are lent, and what is lent -/
inductive Lend : Sl → List Arg → List G → Sl → Prop
  | nil {Γ : Sl} : Lend Γ [] [] Γ
  | own {Γ Γ' : Sl} {g : G} {as : List Arg} {gs : List G} (t : Lend Γ as gs Γ') : Lend Γ (.own g :: as) (g :: gs) Γ'
  | var {Γ Γ' : Sl} {i : Nat} {o : Option Nat} {g : G} {as : List Arg} {gs : List G} (h : Γ[i]? = some (some (o, g))) (t : Lend (Γ.set i none) as gs Γ') : Lend Γ (.var i :: as) (g :: gs) Γ'
/-- what comes back -/
inductive Back (Γ0 : Sl) : Sl → List Arg → List G → Sl → Prop
  | nil {Γ : Sl} : Back Γ0 Γ [] [] Γ
  | own {Γ Γ' : Sl} {g g' : G} {as : List Arg} {gs : List G} (t : Back Γ0 Γ as gs Γ') : Back Γ0 Γ (.own g :: as) (g' :: gs) Γ'
  | var {Γ Γ' : Sl} {i : Nat} {o : Option Nat} {g g' : G} {as : List Arg} {gs : List G} (h : Γ0[i]? = some (some (o, g))) (hl : i < Γ.length) (t : Back Γ0 (Γ.set i (some (o, g'))) as gs Γ') : Back Γ0 Γ (.var i :: as) (g' :: gs) Γ'
section
variable {B : List O → Prop} {st s : Store} {env : Env} {fr : List Nat}
theorem Rel.lend : ∀ {Γ : Sl} {as : List Arg} {gs : List G} {Γ' : Sl} {ds : List D} {fs fr : List Nat}, Lend Γ as gs Γ' → AOwn st env as ds fs → Rel B Γ (fs ++ fr) env st → ∃ fs', Owns st gs ds fs' ∧ Rel B Γ' (fs' ++ fr) env st
  | _, _, _, _, _, _, _, .nil, .nil, r => ⟨[], .nil, r⟩
  | _, _, _, _, _, _, fr, .own t, .own (f := f) (fs := fs) h a, r => by
    have r' : Rel B _ (fs ++ (f ++ fr)) env st := r.perm (by rw [← List.append_assoc]; exact (List.perm_append_comm).append_right fr)
    obtain ⟨fs', h1, h2⟩ := Rel.lend t a r'
    refine ⟨f ++ fs', .cons h h1, h2.perm ?_⟩
    rw [← List.append_assoc]
    exact (List.perm_append_comm).append_right fr
  | _, _, _, _, _, _, fr, .var (i := i) e t, .var (fs := fs) h a, r => by
    obtain ⟨d, f, k1, k2, _, k4⟩ := r.take e
    rw [h] at k1; cases k1
    have r' : Rel B _ (fs ++ (f ++ fr)) env st := k4.perm (by rw [← List.append_assoc, ← List.append_assoc]; exact (List.perm_append_comm).append_right fr)
    obtain ⟨fs', h1, h2⟩ := Rel.lend t a r'
    refine ⟨f ++ fs', .cons k2 h1, h2.perm ?_⟩
    rw [← List.append_assoc]
    exact (List.perm_append_comm).append_right fr
theorem Rel.give {Γ0 : Sl} {fr0 : List Nat} {st0 : Store} (r0 : Rel B Γ0 fr0 env st0) : ∀ {Γ : Sl} {as : List Arg} {gs : List G} {Γ' : Sl} {ds : List D} {fs fr : List Nat} {fs0 : List Nat}, Back Γ0 Γ as gs Γ' → AOwn st0 env as ds fs0 → Owns s gs ds fs → Rel B Γ (fs ++ fr) env s → Rel B Γ' fr env s
  | _, _, _, _, _, _, _, _, .nil, _, .nil, r => r
  | _, _, _, _, _, _, _, _, .own t, .own _ a, .cons (f := f) h w, r => by
    rw [List.append_assoc] at r
    exact Rel.give r0 t a w (r.weak (a := f))
  | _, _, _, _, _, _, _, _, .var (i := i) e hl t, .var h a, .cons (f := f) k w, r => by
    obtain ⟨d, f', k1, _, k3⟩ := r0.read e
    rw [h] at k1; cases k1
    rw [List.append_assoc] at r
    exact Rel.give r0 t a w (r.back hl h k k3)
end

section
variable (B : List O → Prop)
def PA (Γ : Sl) (g : FA) (as : List Arg) : Prop := ∀ fr env st, Rel B Γ fr env st → ∃ ds, g env st = .ok ds st ∧ AOwn st env as ds []
def WA (Γ : Sl) (g : FA) {α : Type} (m : W α) (as : α → List Arg) (Γ' : α → Sl) : Prop := ∀ fr env st Q X, Rel B Γ fr env st → m Q X →
  OutP (g env st) (fun ds s => ∃ a fv, Q a ∧ AOwn s env (as a) ds fv ∧ Rel B (Γ' a) (fv ++ fr) env s ∧ Keep fr st s) (XP B X fr st)
/-- a def: what it does with what is handed in -/
def WF (F : FF) (gs : List G) {β : Type} (m : W β) (v : β → G) (post : β → List G) : Prop := ∀ fr ds st fs Q X, Owns st gs ds fs → Ok B (fs ++ fr) st → m Q X →
  OutP (F ds st) (fun r s => ∃ b fv fs', Q b ∧ ROwn s r (v b) fv ∧ Owns s (post b) ds fs' ∧ Ok B (fv ++ (fs' ++ fr)) s ∧ Keep fr st s) (XP B X fr st)
end
section
variable {B : List O → Prop} {Γ : Sl} {f : FE} {g : FA} {α β γ : Type} {as : List Arg}
theorem pa_nil : PA B Γ fNil [] := fun fr env st r => ⟨[], rfl, .nil⟩
theorem pa_v {p : PV} (h : WV Γ f p) (t : PA B Γ g as) : PA B Γ (fCons f g) (.own (.im p) :: as) := fun fr env st r => by
  obtain ⟨ds, h1, h2⟩ := t fr env st r
  exact ⟨_, ev_consV (h env st r.rd) h1, .own (f := []) (.im p) h2⟩
theorem pa_bag {i : Nat} {o : Option Nat} (h : Γ[i]? = some (some (o, .bag))) (t : PA B Γ g as) : PA B Γ (fCons (fName i) g) (.own .bag :: as) := fun fr env st r => by
  obtain ⟨ds, h1, h2⟩ := t fr env st r
  obtain ⟨d, f, k1, k2, _⟩ := r.read h
  have k3 : f = [] := k2.flat .bag
  subst k3
  exact ⟨_, ev_consV (ev_name k1) h1, .own (f := []) k2 h2⟩
theorem pa_var {i : Nat} {z : Option Nat × G} (h : Γ[i]? = some (some z)) (t : PA B Γ g as) : PA B Γ (fCons (fName i) g) (.var i :: as) := fun fr env st r => by
  obtain ⟨ds, h1, h2⟩ := t fr env st r
  obtain ⟨d, f, k1, k2, _⟩ := r.read (o := z.1) (g := z.2) h
  exact ⟨_, ev_consV (ev_name k1) h1, .var k1 h2⟩
theorem wa_p (h : PA B Γ g as) : WA B Γ g (W.pure ()) (fun _ => as) (fun _ => Γ) := fun fr env st Q X r q => by
  obtain ⟨ds, h1, h2⟩ := h fr env st r
  rw [h1]
  exact ⟨(), [], q, h2, r, .refl⟩
theorem OutP.cons {env : Env} {st : Store} {d : D} {P : List D → Store → Prop} {E : Ex → Store → Prop} (e : f env st = .ok (.v d) st) (h : OutP (g env st) (fun ds s => P (d :: ds) s) E) : OutP (fCons f g env st) P E := by
  unfold fCons
  rw [e]
  exact h.bind (fun _ _ h => h) fun _ _ h => h
/-- a pure argument ahead of others -/
theorem wa_v {p : PV} {m : W α} {bs : α → List Arg} {Γ' : α → Sl} (h : WV Γ f p) (t : WA B Γ g m bs Γ') : WA B Γ (fCons f g) m (fun a => .own (.im p) :: bs a) Γ' := fun fr env st Q X r q => by
  refine OutP.cons (h env st r.rd) ((t fr env st Q X r q).mono (fun ds s h => ?_) fun _ _ h => h)
  obtain ⟨a, fv, h1, h2, h3, h4⟩ := h
  exact ⟨a, fv, h1, .own (f := []) (.im p) h2, h3, h4⟩
theorem wa_bag {i : Nat} {o : Option Nat} {m : W α} {bs : α → List Arg} {Γ' : α → Sl} (h : Γ[i]? = some (some (o, .bag))) (t : WA B Γ g m bs Γ') : WA B Γ (fCons (fName i) g) m (fun a => .own .bag :: bs a) Γ' := fun fr env st Q X r q => by
  obtain ⟨d, f, k1, k2, _⟩ := r.read h
  have k3 : f = [] := k2.flat .bag
  subst k3
  refine OutP.cons (ev_name k1) ((t fr env st Q X r q).mono (fun ds s h => ?_) fun _ _ h => h)
  obtain ⟨a, fv, h1, h2, h3, h4⟩ := h
  exact ⟨a, fv, h1, .own (f := []) (k2.keep (by simp)) h2, h3, h4⟩
theorem wa_var {i : Nat} {z : Option Nat × G} {m : W α} {bs : α → List Arg} {Γ' : α → Sl} (h : Γ[i]? = some (some z)) (t : WA B Γ g m bs Γ') : WA B Γ (fCons (fName i) g) m (fun a => .var i :: bs a) Γ' := fun fr env st Q X r q => by
  obtain ⟨d, f, k1, k2, _⟩ := r.read (o := z.1) (g := z.2) h
  refine OutP.cons (ev_name k1) ((t fr env st Q X r q).mono (fun ds s h => ?_) fun _ _ h => h)
  obtain ⟨a, fv, h1, h2, h3, h4⟩ := h
  exact ⟨a, fv, h1, .var k1 h2, h3, h4⟩
/-- a new object gets its place -/
theorem own_alloc {Γ : Sl} {fr : List Nat} {env : Env} {s : Store} {r : R} {gg : G} {fv : List Nat} (w : ROwn s r gg fv) (h : Rel B Γ (fv ++ fr) env s) (k : ∀ n ∈ fr, n < s.length) : ∃ fv', Own (alloc r s).2 gg (alloc r s).1 fv' ∧ Rel B Γ (fv' ++ fr) env (alloc r s).2 ∧ Keep fr s (alloc r s).2 := by
  cases w with
  | v w => exact ⟨fv, w, h, .refl⟩
  | o w =>
    have hx := (w.lt h.two).1
    refine ⟨s.length :: fv, .obj (by simp [alloc]) (w.keep fun n hn => ?_), h.push hx, keep_push k⟩
    exact List.getElem?_append_left ((w.lt h.two).2 n hn)
/-- an argument of one's own, pure ones behind it -/
theorem wa_e {m : W α} {v : α → G} {bs : α → List Arg} {Γ' : α → Sl} (h : WE B Γ f m v Γ') (t : ∀ a, PA B (Γ' a) g (bs a)) : WA B Γ (fCons f g) m (fun a => .own (v a) :: bs a) Γ' := fun fr env st Q X r q => by
  unfold fCons
  refine (h fr env st Q X r q).bind (fun ra s h => ?_) fun _ _ h => h
  obtain ⟨a, fv, h1, h2, h3, h4⟩ := h
  obtain ⟨fv', w1, w2, w3⟩ := own_alloc h2 h3 (fun n hn => Nat.lt_of_lt_of_le (r.lt n hn) h4.len)
  obtain ⟨ds, k1, k2⟩ := t a _ env _ w2
  rw [k1]
  refine ⟨a, fv', h1, ?_, w2, h4.trans w3⟩
  have := AOwn.own w1 k2
  rwa [List.append_nil] at this
/-- several of them -/
theorem wa_ee {m : W α} {v : α → G} {Γ1 : α → Sl} {n : α → W β} {bs : α → β → List Arg} {Γ' : α → β → Sl} (h : WE B Γ f m v Γ1) (t : ∀ a, WA B (Γ1 a) g (n a) (bs a) (Γ' a)) : WA B Γ (fCons f g) (m.bind fun a => (n a).bind fun b => W.pure (a, b)) (fun ab => .own (v ab.1) :: bs ab.1 ab.2) (fun ab => Γ' ab.1 ab.2) := fun fr env st Q X r q => by
  unfold fCons
  refine (h fr env st _ X r q).bind (fun ra s h => ?_) fun _ _ h => h
  obtain ⟨a, fv, h1, h2, h3, h4⟩ := h
  obtain ⟨fv', w1, w2, w3⟩ := own_alloc h2 h3 (fun n hn => Nat.lt_of_lt_of_le (r.lt n hn) h4.len)
  refine (t a _ env _ _ X w2 h1).bind (fun ds s2 h => ?_) fun _ _ h => (h.app .refl).same (h4.trans w3)
  obtain ⟨b, fv2, p1, p2, p3, p4⟩ := h
  refine ⟨(a, b), fv' ++ fv2, p1, .own (w1.keep fun n hn => p4.get n (List.mem_append_left _ hn)) p2, p3.perm ?_, (h4.trans w3).trans p4.right⟩
  rw [← List.append_assoc]
  exact (List.perm_append_comm).append_right fr
theorem REs.bl {st : Store} (h2 : BagAt.m ≤ st.length) : ∀ {Γ : Sl} {env : Env} {fs : List Nat}, REs st Γ env fs → ∀ (i : Nat) (d : D), (∃ z : Option Nat × G, Γ[i]? = some (some z)) → env[i]? = some (some d) → Bl st.length d
  | _, _, _, .nil, i, d, ⟨z, hz⟩, _ => by simp at hz
  | _, _, _, .no t, 0, d, ⟨z, hz⟩, _ => by simp at hz
  | _, _, _, .no t, i + 1, d, hz, he => t.bl h2 i d (by simpa using hz) (by simpa using he)
  | _, _, _, .yes h p t, 0, d, _, he => by
    simp at he; subst he; exact (h.lt h2).1
  | _, _, _, .yes h p t, i + 1, d, hz, he => t.bl h2 i d (by simpa using hz) (by simpa using he)
/-- the same names are filled -/
abbrev SameDom (Γ' Γ : Sl) : Prop := Γ'.map Option.isSome = Γ.map Option.isSome
theorem SameDom.at {Γ' Γ : Sl} (h : SameDom Γ' Γ) {i : Nat} (z : ∃ z : Option Nat × G, Γ'[i]? = some (some z)) : ∃ z : Option Nat × G, Γ[i]? = some (some z) := by
  obtain ⟨z, hz⟩ := z
  have e : (Γ'.map Option.isSome)[i]? = some true := by rw [List.getElem?_map, hz]; rfl
  rw [h, List.getElem?_map] at e
  cases q : Γ[i]? with
  | none => rw [q] at e; cases e
  | some y =>
    cases y with
    | none => rw [q] at e; cases e
    | some z => exact ⟨z, rfl⟩
/-- a call -/
theorem we_callW {F : FF} {m : W α} {bs : α → List Arg} {Γ1 : α → Sl} {gs : α → List G} {Γ2 : α → Sl} {n : α → W β} {v : α → β → G} {post : α → β → List G} {Γ' : α → β → Sl}
    (ha : WA B Γ g m bs Γ1) (hl : ∀ a, Lend (Γ1 a) (bs a) (gs a) (Γ2 a)) (hF : ∀ a, WF B F (gs a) (n a) (v a) (post a)) (hb : ∀ a b, Back (Γ1 a) (Γ2 a) (bs a) (post a b) (Γ' a b)) (hd : ∀ a b, SameDom (Γ' a b) Γ) :
    WE B Γ (fCall F g) (m.bind fun a => (n a).bind fun b => W.pure (a, b)) (fun ab => v ab.1 ab.2) (fun ab => Γ' ab.1 ab.2) := fun fr env st Q X r q => by
  unfold fCall
  refine gc_rel (Γ := Γ) r.ok (fun ab i d hz he => ?_) ?_
  · obtain ⟨fs, hr, hk⟩ := r
    exact hr.bl hk.two i d ((hd ab.1 ab.2).at hz) he
  · refine (ha fr env st _ X r q).bind (fun ds s h => ?_) fun _ _ h => h
    obtain ⟨a, fv, h1, h2, h3, h4⟩ := h
    obtain ⟨fs', w1, w2⟩ := Rel.lend (hl a) h2 h3
    obtain ⟨fs0, c1, c2⟩ := w2
    have c3 : Ok B (fs' ++ (fs0 ++ fr)) s := c2.perm (by rw [← List.append_assoc, ← List.append_assoc]; exact (List.perm_append_comm).append_right fr)
    refine (hF a (fs0 ++ fr) ds s fs' _ X w1 c3 h1).mono (fun rr s2 h => ?_) fun _ _ h => ((h.app .refl).same (fr := fr) h4)
    obtain ⟨b, fb, fs2, p1, p2, p3, p4, p5⟩ := h
    refine ⟨(a, b), fb, p1, p2, ?_, h4.trans p5.right⟩
    refine Rel.give h3 (hb a b) h2 p3 (fr := fb ++ fr) ⟨fs0, c1.keep fun n hn => p5.get n (List.mem_append_left _ hn), p4.perm ?_⟩
    -- fb ++ (fs2 ++ (fs0 ++ fr)) ~ fs0 ++ (fs2 ++ (fb ++ fr))
    exact ((perm_sw fb fs2 _).trans ((perm_sw fb fs0 fr).append_left fs2)).trans (perm_sw fs2 fs0 _)
/-- pure arguments; what is lent comes back -/
theorem we_callP {F : FF} {gs : List G} {Γ2 : Sl} {n : W β} {v : β → G} {post : β → List G} {Γ' : β → Sl}
    (ha : PA B Γ g as) (hl : Lend Γ as gs Γ2) (hF : WF B F gs n v post) (hb : ∀ b, Back Γ Γ2 as (post b) (Γ' b)) (hd : ∀ b, SameDom (Γ' b) Γ) : WE B Γ (fCall F g) n v Γ' := fun fr env st Q X r q => by
  have := we_callW (wa_p ha) (fun _ => hl) (fun _ => hF) (fun _ b => hb b) (fun _ b => hd b) fr env st (fun ub => Q ub.2) X r q
  refine this.mono (fun rr s h => ?_) fun _ _ h => h
  obtain ⟨⟨u, b⟩, fv, h1, h2, h3, h4⟩ := h
  exact ⟨b, fv, h1, h2, h3, h4⟩
/-- one effect among the arguments; what is lent comes back as it was -/
theorem we_callE {F : FF} {m : W α} {bs : α → List Arg} {Γ1 : α → Sl} {gs : α → List G} {Γ2 : α → Sl} {n : α → W β} {v : β → G} {post : α → β → List G}
    (ha : WA B Γ g m bs Γ1) (hl : ∀ a, Lend (Γ1 a) (bs a) (gs a) (Γ2 a)) (hF : ∀ a, WF B F (gs a) (n a) v (post a)) (hb : ∀ a b, Back (Γ1 a) (Γ2 a) (bs a) (post a b) Γ) : WE B Γ (fCall F g) (m.bind n) v (fun _ => Γ) := fun fr env st Q X r q => by
  have := we_callW ha hl hF hb (fun _ _ => rfl) fr env st (fun ub => Q ub.2) X r q
  refine this.mono (fun rr s h => ?_) fun _ _ h => h
  obtain ⟨⟨u, b⟩, fv, h1, h2, h3, h4⟩ := h
  exact ⟨b, fv, h1, h2, h3, h4⟩
end
end Fx

set_option Elab.async false
set_option linter.all false
set_option maxRecDepth 100000
set_option maxHeartbeats 4000000
set_option autoImplicit false
/-! Fx, part Y: statements, loops, defs. -/
namespace Fx
open PySem PySem.Spec PyProof.Rows L2
variable [BagAt]

inductive Fin where
  | nx (Γ : Sl) | rt (g : G) (Γ : Sl) | bk (Γ : Sl) | ct (Γ : Sl)
/-- what a round of a loop ends with -/
inductive Ctl (σ ρ : Type) where
  | next (s : σ) | ret (r : ρ) | brk (s : σ) | cont (s : σ)
/-- what a loop ends with -/
inductive Lp (σ ρ : Type) where
  | next (s : σ) | ret (r : ρ)
namespace W
variable {α σ ρ : Type}
/-- loops over a list -/
def forN (b : α → σ → W σ) : List α → σ → W σ
  | [], s => W.pure s
  | x :: xs, s => (b x s).bind fun s' => forN b xs s'
def forC (b : α → σ → W (Ctl σ ρ)) : List α → σ → W (Lp σ ρ)
  | [], s => W.pure (.next s)
  | x :: xs, s => (b x s).bind fun c => match c with
    | .next s' => forC b xs s'
    | .cont s' => forC b xs s'
    | .brk s' => W.pure (.next s')
    | .ret r => W.pure (.ret r)
/-- loops by a test: k rounds and the last look -/
def whN (c : σ → W Bool) (b : σ → W σ) : Nat → σ → W σ
  | 0, _ => W.fail
  | k + 1, s => (c s).bind fun t => W.ite t ((b s).bind fun s' => whN c b k s') (W.pure s)
def whileN (c : σ → W Bool) (b : σ → W σ) (s : σ) : W σ := fun Q X => ∃ k, whN c b k s Q X
def whC (c : σ → W Bool) (b : σ → W (Ctl σ ρ)) : Nat → σ → W (Lp σ ρ)
  | 0, _ => W.fail
  | k + 1, s => (c s).bind fun t => W.ite t ((b s).bind fun r => match r with
    | .next s' => whC c b k s'
    | .cont s' => whC c b k s'
    | .brk s' => W.pure (.next s')
    | .ret r => W.pure (.ret r)) (W.pure (.next s))
def whileC (c : σ → W Bool) (b : σ → W (Ctl σ ρ)) (s : σ) : W (Lp σ ρ) := fun Q X => ∃ k, whC c b k s Q X
def compP {β : Type} (xs : List α) (c : α → Bool) (r : α → β) : W (List β) := W.need (xs.length ≤ 1000000) (W.pure ((xs.filter c).map r))
def comL {β : Type} (c : α → W Bool) (r : α → W β) : List α → W (List β)
  | [] => W.pure []
  | x :: xs => (c x).nox.bind fun t => W.ite t ((r x).nox.bind fun y => (comL c r xs).bind fun ys => W.pure (y :: ys)) (comL c r xs)
def compM {β : Type} (xs : List α) (c : α → W Bool) (r : α → W β) : W (List β) := W.need (xs.length ≤ 1000000) (comL c r xs)
end W

def SP (B : List O → Prop) (fr : List Nat) (st0 : Store) {ε : Type} (J : ε → Fin) (Q : ε → Prop) (X : Xc → Prop) : OutS → Prop
  | .next e s => ∃ a Γ1, Q a ∧ J a = .nx Γ1 ∧ Rel B Γ1 fr e s ∧ Keep fr st0 s
  | .ret r s => ∃ a g Γ1 fv e, Q a ∧ J a = .rt g Γ1 ∧ ROwn s r g fv ∧ Rel B Γ1 (fv ++ fr) e s ∧ Keep fr st0 s
  | .brk e s => ∃ a Γ1, Q a ∧ J a = .bk Γ1 ∧ Rel B Γ1 fr e s ∧ Keep fr st0 s
  | .cont e s => ∃ a Γ1, Q a ∧ J a = .ct Γ1 ∧ Rel B Γ1 fr e s ∧ Keep fr st0 s
  | .exc x _ s => XP B X fr st0 x s
  | .stuck => False
/-- a statement -/
def WS (B : List O → Prop) (Γ : Sl) (s : FS) {ε : Type} (m : W ε) (J : ε → Fin) : Prop := ∀ fr env st Q X, Rel B Γ fr env st → m Q X → SP B fr st J Q X (s env st)

section
variable {B : List O → Prop} {Γ : Sl} {f : FE} {s t sa sb : FS} {c : FB} {α β ε ε' εa : Type} {fr : List Nat} {env : Env} {st st1 st2 : Store}
theorem SP.same {J : ε → Fin} {Q : ε → Prop} {X : Xc → Prop} {o : OutS} (k : Keep fr st st1) (h : SP B fr st1 J Q X o) : SP B fr st J Q X o := by
  cases o with
  | next e s => obtain ⟨a, Γ1, h1, h2, h3, h4⟩ := h; exact ⟨a, Γ1, h1, h2, h3, k.trans h4⟩
  | ret r s => obtain ⟨a, g, Γ1, fv, e, h1, h2, h3, h4, h5⟩ := h; exact ⟨a, g, Γ1, fv, e, h1, h2, h3, h4, k.trans h5⟩
  | brk e s => obtain ⟨a, Γ1, h1, h2, h3, h4⟩ := h; exact ⟨a, Γ1, h1, h2, h3, k.trans h4⟩
  | cont e s => obtain ⟨a, Γ1, h1, h2, h3, h4⟩ := h; exact ⟨a, Γ1, h1, h2, h3, k.trans h4⟩
  | exc x e s => exact XP.same k h
  | stuck => exact h
theorem SP.map {J : ε → Fin} {J' : ε' → Fin} {Q : ε → Prop} {Q' : ε' → Prop} {X : Xc → Prop} {o : OutS} (h : SP B fr st J Q X o) (p : ∀ a, Q a → ∃ a', Q' a' ∧ J' a' = J a) : SP B fr st J' Q' X o := by
  cases o with
  | next e s => obtain ⟨a, Γ1, h1, h2, h3, h4⟩ := h; obtain ⟨a', q, j⟩ := p a h1; exact ⟨a', Γ1, q, j.trans h2, h3, h4⟩
  | ret r s => obtain ⟨a, g, Γ1, fv, e, h1, h2, h3, h4, h5⟩ := h; obtain ⟨a', q, j⟩ := p a h1; exact ⟨a', g, Γ1, fv, e, q, j.trans h2, h3, h4, h5⟩
  | brk e s => obtain ⟨a, Γ1, h1, h2, h3, h4⟩ := h; obtain ⟨a', q, j⟩ := p a h1; exact ⟨a', Γ1, q, j.trans h2, h3, h4⟩
  | cont e s => obtain ⟨a, Γ1, h1, h2, h3, h4⟩ := h; obtain ⟨a', q, j⟩ := p a h1; exact ⟨a', Γ1, q, j.trans h2, h3, h4⟩
  | exc x e s => exact h
  | stuck => exact h
theorem thenS_P {α : Type} {o : Out α} {P : α → Store → Prop} {k : α → Store → OutS} {J : ε → Fin} {Q : ε → Prop} {X : Xc → Prop} (h : OutP o P (XP B X fr st)) (p : ∀ a s, P a s → SP B fr st J Q X (k a s)) : SP B fr st J Q X (o.thenS env k) := by
  cases o with
  | ok a s => exact p a s h
  | exc x s => exact h
  | stuck => exact h.elim
theorem ws_set {i : Nat} {m : W α} {v : α → G} {Γ' : α → Sl} (h : WE B Γ f m v Γ') (hi : ∀ a, i < (Γ' a).length) : WS B Γ (fSet i f) m (fun a => .nx ((Γ' a).set i (some (none, v a)))) := fun fr env st Q X r q => by
  unfold fSet
  refine thenS_P (h fr env st Q X r q) fun rr s ⟨a, fv, h1, h2, h3, h4⟩ => ?_
  obtain ⟨fv', w1, w2, w3⟩ := own_alloc h2 h3 (fun n hn => Nat.lt_of_lt_of_le (r.lt n hn) h4.len)
  exact ⟨a, _, h1, rfl, w2.assign (hi a) w1 (fun n e => nomatch e), h4.trans w3⟩
theorem ws_expr {m : W α} {v : α → G} {Γ' : α → Sl} (h : WE B Γ f m v Γ') : WS B Γ (fExpr f) m (fun a => .nx (Γ' a)) := fun fr env st Q X r q => by
  unfold fExpr
  refine thenS_P (h fr env st Q X r q) fun rr s ⟨a, fv, h1, h2, h3, h4⟩ => ?_
  exact ⟨a, _, h1, rfl, h3.weak, h4⟩
theorem ws_ret {m : W α} {v : α → G} {Γ' Γe : α → Sl} (h : WE B Γ f m v Γ') (l : ∀ a, Less (Γe a) (Γ' a)) : WS B Γ (fRet f) m (fun a => .rt (v a) (Γe a)) := fun fr env st Q X r q => by
  unfold fRet
  refine thenS_P (h fr env st Q X r q) fun rr s ⟨a, fv, h1, h2, h3, h4⟩ => ?_
  exact ⟨a, _, _, fv, env, h1, rfl, h2, h3.less (l a), h4⟩
theorem ws_retN {Γe : Sl} (l : Less Γe Γ) : WS B Γ fRetN (W.pure ()) (fun _ => .rt (.im .non) Γe) := fun fr env st Q X r q => ⟨(), _, _, [], env, q, rfl, .v (.im .non), r.less l, .refl⟩
theorem ws_skip : WS B Γ fSkip (W.pure ()) (fun _ => .nx Γ) := fun fr env st Q X r q => ⟨(), _, q, rfl, r, .refl⟩
theorem ws_brk {Γ' : Sl} (l : Less Γ' Γ) : WS B Γ fBrk (W.pure ()) (fun _ => .bk Γ') := fun fr env st Q X r q => ⟨(), _, q, rfl, r.less l, .refl⟩
theorem ws_cont {Γ' : Sl} (l : Less Γ' Γ) : WS B Γ fCont (W.pure ()) (fun _ => .ct Γ') := fun fr env st Q X r q => ⟨(), _, q, rfl, r.less l, .refl⟩
theorem ws_seq {m : W α} {Gm : α → Sl} {k : α → W ε} {J : ε → Fin} (h : WS B Γ s m (fun a => .nx (Gm a))) (t' : ∀ a, WS B (Gm a) t (k a) J) : WS B Γ (fSeq s t) (m.bind k) J := fun fr env st Q X r q => by
  have := h fr env st _ X r q
  unfold fSeq
  generalize s env st = o at this
  cases o with
  | next e s1 =>
    obtain ⟨a, Γ1, h1, h2, h3, h4⟩ := this
    cases h2
    exact (t' a fr e s1 Q X h3 h1).same h4
  | ret r s1 => obtain ⟨a, g, Γ1, fv, e, h1, h2, h3, h4⟩ := this; cases h2
  | brk e s1 => obtain ⟨a, Γ1, h1, h2, h3, h4⟩ := this; cases h2
  | cont e s1 => obtain ⟨a, Γ1, h1, h2, h3, h4⟩ := this; cases h2
  | exc x e s1 => exact this
  | stuck => exact this
/-- behind a loop that may hand back -/
theorem ws_seqL {σ ρ : Type} {m : W (Lp σ ρ)} {Gm : σ → Sl} {v : ρ → G} {Γe : ρ → Sl} {k : σ → W ε} {h' : ρ → ε} {J : ε → Fin} (h : WS B Γ s m (fun a => match a with | .next s => .nx (Gm s) | .ret r => .rt (v r) (Γe r))) (t' : ∀ a, WS B (Gm a) t (k a) J) (hj : ∀ r, J (h' r) = .rt (v r) (Γe r)) :
    WS B Γ (fSeq s t) (m.bind fun a => match a with | .next s => k s | .ret r => W.pure (h' r)) J := fun fr env st Q X r q => by
  have := h fr env st _ X r q
  unfold fSeq
  generalize s env st = o at this
  cases o with
  | next e s1 =>
    obtain ⟨a, Γ1, h1, h2, h3, h4⟩ := this
    cases a with
    | next a => cases h2; exact (t' a fr e s1 Q X h3 h1).same h4
    | ret a => cases h2
  | ret r s1 =>
    obtain ⟨a, g, Γ1, fv, e, h1, h2, h3, h4, h5⟩ := this
    cases a with
    | next a => cases h2
    | ret a => cases h2; exact ⟨_, _, _, fv, e, h1, hj a, h3, h4, h5⟩
  | brk e s1 => obtain ⟨a, Γ1, h1, h2, h3, h4⟩ := this; cases a <;> cases h2
  | cont e s1 => obtain ⟨a, Γ1, h1, h2, h3, h4⟩ := this; cases a <;> cases h2
  | exc x e s1 => exact this
  | stuck => exact this
/-- another word for the end -/
theorem ws_map {m : W α} {J1 : α → Fin} {h : α → ε} {J : ε → Fin} (w : WS B Γ s m J1) (hj : ∀ a, J (h a) = J1 a) : WS B Γ s (W.map h m) J := fun fr env st Q X r q =>
  (w fr env st _ X r q).map fun a qa => ⟨h a, qa, hj a⟩
/-- the end of a block, some names forgotten -/
theorem ws_to {m : W α} {G1 : α → Sl} {h : α → ε} {G2 : ε → Sl} (w : WS B Γ s m (fun a => .nx (G1 a))) (l : ∀ a, Less (G2 (h a)) (G1 a)) : WS B Γ s (W.map h m) (fun b => .nx (G2 b)) := fun fr env st Q X r q => by
  have := w fr env st _ X r q
  generalize s env st = o at this
  cases o with
  | next e s1 => obtain ⟨a, Γ1, h1, h2, h3, h4⟩ := this; cases h2; exact ⟨h a, _, h1, rfl, h3.less (l a), h4⟩
  | ret r s1 => obtain ⟨a, g, Γ1, fv, e, h1, h2, h3, h4⟩ := this; cases h2
  | brk e s1 => obtain ⟨a, Γ1, h1, h2, h3, h4⟩ := this; cases h2
  | cont e s1 => obtain ⟨a, Γ1, h1, h2, h3, h4⟩ := this; cases h2
  | exc x e s1 => exact this
  | stuck => exact this
theorem ws_toJ {m : W α} {G1 : α → Sl} {h : α → ε} {J : ε → Fin} {G2 : α → Sl} (w : WS B Γ s m (fun a => .nx (G1 a))) (hj : ∀ a, J (h a) = .nx (G2 a)) (l : ∀ a, Less (G2 a) (G1 a)) : WS B Γ s (W.map h m) J := fun fr env st Q X r q => by
  have := ws_to (h := fun a => a) (G2 := G2) w l fr env st (fun a => Q (h a)) X r q
  exact this.map fun a qa => ⟨h a, qa, hj a⟩
theorem ws_if {m : W Bool} {a b : W ε} {J : ε → Fin} (hc : WT B Γ c m) (ha : WS B Γ sa a J) (hb : WS B Γ sb b J) : WS B Γ (fIfS c sa sb) (m.bind fun x => W.ite x a b) J := fun fr env st Q X r q => by
  unfold fIfS
  refine thenS_P (hc fr env st _ X r q) fun x s1 ⟨h1, h2, h3⟩ => ?_
  cases x with
  | true => exact (ha fr env s1 Q X h2 h1).same h3
  | false => exact (hb fr env s1 Q X h2 h1).same h3
theorem ws_ifB {x : Bool} {a b : W ε} {J : ε → Fin} (hc : WB Γ c x) (ha : WS B Γ sa a J) (hb : WS B Γ sb b J) : WS B Γ (fIfS c sa sb) (W.ite x a b) J := fun fr env st Q X r q => by
  unfold fIfS
  rw [hc env st r.rd]
  show SP B fr st J Q X (if x = true then sa env st else sb env st)
  cases x with
  | true => exact ha fr env st Q X r q
  | false => exact hb fr env st Q X r q
theorem ws_skipseq {a : W ε} {J : ε → Fin} (h : WS B Γ t a J) : WS B Γ (fSeq fSkip t) a J := fun fr env st Q X r q => h fr env st Q X r q
/-- an if whose first branch never goes on -/
theorem ws_ifX {m : W Bool} {a : W εa} {b : W ε} {Ja : εa → Fin} {J : ε → Fin} {h : εa → ε} (hc : WT B Γ c m) (ha : WS B Γ sa a Ja) (hn : ∀ x Γ', Ja x ≠ .nx Γ') (hj : ∀ x, J (h x) = Ja x) (hb : WS B Γ (fSeq sb t) b J) : WS B Γ (fSeq (fIfS c sa sb) t) (m.bind fun x => W.ite x (W.map h a) b) J := fun fr env st Q X r q => by
  have hc' := hc fr env st _ X r q
  unfold fSeq fIfS
  generalize c env st = o at hc'
  cases o with
  | stuck => exact hc'
  | exc x s1 => exact hc'
  | ok x s1 =>
    obtain ⟨h1, h2, h3⟩ := hc'
    cases x with
    | false => exact (hb fr env s1 Q X h2 h1).same h3
    | true =>
      have := ha fr env s1 _ X h2 h1
      show SP B fr st J Q X ((sa env s1).seq t)
      generalize sa env s1 = o at this
      cases o with
      | next e s2 => obtain ⟨a, Γ1, k1, k2, _⟩ := this; exact absurd k2 (hn a Γ1)
      | ret r s2 => obtain ⟨a, g, Γ1, fv, e, k1, k2, k3, k4, k5⟩ := this; exact ⟨h a, g, Γ1, fv, e, k1, (hj a).trans k2, k3, k4, h3.trans k5⟩
      | brk e s2 => obtain ⟨a, Γ1, k1, k2, k3, k4⟩ := this; exact ⟨h a, Γ1, k1, (hj a).trans k2, k3, h3.trans k4⟩
      | cont e s2 => obtain ⟨a, Γ1, k1, k2, k3, k4⟩ := this; exact ⟨h a, Γ1, k1, (hj a).trans k2, k3, h3.trans k4⟩
      | exc x e s2 => exact XP.same h3 this
      | stuck => exact this
theorem wt_b {x : Bool} (h : WB Γ c x) : WT B Γ c (W.pure x) := fun fr env st Q X r q => by rw [h env st r.rd]; exact ⟨q, r, .refl⟩
theorem wq_b {x : Bool} (h : WB Γ c x) : WQ Γ c (W.pure x) := fun env st Q X r q => ⟨x, q, h env st r⟩
theorem wt_q {m : W Bool} (h : WQ Γ c m) : WT B Γ c m := fun fr env st Q X r q => by
  obtain ⟨b, h1, h2⟩ := h env st Q X r.rd q
  rw [h2]; exact ⟨h1, r, .refl⟩
theorem wb_v {b : Bool} (h : WV Γ f (.bl b)) : WB Γ (fTrue f) b := fun env st r => ev_true (h env st r)
theorem wq_p {m : W Bool} (h : WP Γ f m (gM .bl)) : WQ Γ (fTrue f) m := fun env st Q X r q => by
  obtain ⟨a, rr, fv, h1, h2, h3⟩ := h env st Q X r q
  cases h3 with
  | v h3 => obtain ⟨rfl, _⟩ := h3.im_inv; exact ⟨a, h1, ev_true h2⟩
  | o h3 => cases h3
theorem wt_e {m : W Bool} (h : WE B Γ f m (gM .bl) fun _ => Γ) : WT B Γ (fTrue f) m := fun fr env st Q X r q => by
  unfold fTrue
  refine (h fr env st Q X r q).bind (fun rr s ⟨a, fv, h1, h2, h3, h4⟩ => ?_) fun _ _ h => h
  cases h2 with
  | v h2 => obtain ⟨rfl, rfl⟩ := h2.im_inv; exact ⟨h1, h3, h4⟩
  | o h2 => cases h2
variable {c1 c2 : FB} {x y : Bool} {m n : W Bool}
theorem wb_not (h : WB Γ c x) : WB Γ (fNot c) (!x) := fun env st r => ev_not (h env st r)
theorem wb_and (h : WB Γ c1 x) (k : WB Γ c2 y) : WB Γ (fAnd c1 c2) (x && y) := fun env st r => by
  rw [ev_and (h env st r), k env st r]; cases x <;> rfl
theorem wb_or (h : WB Γ c1 x) (k : WB Γ c2 y) : WB Γ (fOr c1 c2) (x || y) := fun env st r => by
  rw [ev_or (h env st r), k env st r]; cases x <;> rfl
theorem wq_not (h : WQ Γ c m) : WQ Γ (fNot c) (m.bind fun x => W.pure !x) := fun env st Q X r q => by
  obtain ⟨b, h1, h2⟩ := h env st _ X r q
  exact ⟨!b, h1, ev_not h2⟩
theorem wq_and (h : WQ Γ c1 m) (k : WQ Γ c2 n) : WQ Γ (fAnd c1 c2) (m.bind fun x => W.ite x n (W.pure false)) := fun env st Q X r q => by
  obtain ⟨b, h1, h2⟩ := h env st _ X r q
  cases b with
  | true => obtain ⟨b', k1, k2⟩ := k env st Q X r h1; exact ⟨b', k1, by rw [ev_and h2, if_pos rfl, k2]⟩
  | false => exact ⟨false, h1, by rw [ev_and h2]; rfl⟩
theorem wq_or (h : WQ Γ c1 m) (k : WQ Γ c2 n) : WQ Γ (fOr c1 c2) (m.bind fun x => W.ite x (W.pure true) n) := fun env st Q X r q => by
  obtain ⟨b, h1, h2⟩ := h env st _ X r q
  cases b with
  | false => obtain ⟨b', k1, k2⟩ := k env st Q X r h1; exact ⟨b', k1, by rw [ev_or h2]; exact k2⟩
  | true => exact ⟨true, h1, by rw [ev_or h2]; rfl⟩
theorem wt_not (h : WT B Γ c m) : WT B Γ (fNot c) (m.bind fun x => W.pure !x) := fun fr env st Q X r q => by
  unfold fNot
  exact (h fr env st _ X r q).bind (fun b s h => h) fun _ _ h => h
theorem wt_and (h : WT B Γ c1 m) (k : WT B Γ c2 n) : WT B Γ (fAnd c1 c2) (m.bind fun x => W.ite x n (W.pure false)) := fun fr env st Q X r q => by
  unfold fAnd
  refine (h fr env st _ X r q).bind (fun b s ⟨h1, h2, h3⟩ => ?_) fun _ _ h => h
  cases b with
  | true => exact (k fr env s Q X h2 h1).mono (fun b s ⟨k1, k2, k3⟩ => ⟨k1, k2, h3.trans k3⟩) fun _ _ e => e.same h3
  | false => exact ⟨h1, h2, h3⟩
theorem wt_or (h : WT B Γ c1 m) (k : WT B Γ c2 n) : WT B Γ (fOr c1 c2) (m.bind fun x => W.ite x (W.pure true) n) := fun fr env st Q X r q => by
  unfold fOr
  refine (h fr env st _ X r q).bind (fun b s ⟨h1, h2, h3⟩ => ?_) fun _ _ h => h
  cases b with
  | false => exact (k fr env s Q X h2 h1).mono (fun b s ⟨k1, k2, k3⟩ => ⟨k1, k2, h3.trans k3⟩) fun _ _ e => e.same h3
  | true => exact ⟨h1, h2, h3⟩
end
end Fx

set_option Elab.async false
set_option linter.all false
set_option maxRecDepth 100000
set_option maxHeartbeats 4000000
set_option autoImplicit false
/-! Fx, part Z: targets, sources, loops, lists by a for within, defs. -/
namespace Fx
open PySem PySem.Spec PyProof.Rows L2
variable [BagAt]

abbrev gL {α : Type} (v : α → G) : List α → G := fun xs => .lst (xs.map v)

/-! ### names that a loop or a list binds -/
def TG (B : List O → Prop) (Γ : Sl) (tg : FG) (p : PV) (Γ' : Sl) (own : List Nat) : Prop := ∀ fr env st, Rel B Γ fr env st → ∃ env', tg p.d env = some env' ∧ Rel B Γ' fr env' st ∧ env'.length = env.length ∧ ∀ i, i ∉ own → env'[i]? = env[i]?
def TGs (B : List O → Prop) (Γ : Sl) (tg : FGs) (ps : List PV) (Γ' : Sl) (own : List Nat) : Prop := ∀ fr env st, Rel B Γ fr env st → ∃ env', tg (PV.ds ps) env = some env' ∧ Rel B Γ' fr env' st ∧ env'.length = env.length ∧ ∀ i, i ∉ own → env'[i]? = env[i]?
def TR (Γ : Sl) (tg : FG) (g : G) (Γ' : Sl) : Prop := ∀ env st d f, RdS Γ env st → Own st g d f → ∃ env', tg d env = some env' ∧ RdS Γ' env' st
def TRs (Γ : Sl) (tg : FGs) (gs : List G) (Γ' : Sl) : Prop := ∀ env st ds f, RdS Γ env st → Owns st gs ds f → ∃ env', tg ds env = some env' ∧ RdS Γ' env' st
section
variable {B : List O → Prop} {Γ Γ1 Γ2 : Sl} {t : FG} {ts : FGs} {p : PV} {ps : List PV} {g : G} {gs : List G} {o1 o2 : List Nat}
theorem tg_n {i : Nat} (hi : i < Γ.length) : TG B Γ (tgN i) p (Γ.set i (sg (.im p))) [i] := fun fr env st r => by
  refine ⟨env.set i (some p.d), rfl, ?_, by simp, fun j hj => List.getElem?_set_ne (fun e => hj (by simp [e]))⟩
  exact Rel.assign (f := []) (o := none) r hi (.im p) (fun n e => nomatch e)
theorem tgs_nil : TGs B Γ tgNil [] Γ [] := fun fr env st r => ⟨env, rfl, r, rfl, fun _ _ => rfl⟩
theorem tgs_cons (h : TG B Γ t p Γ1 o1) (k : TGs B Γ1 ts ps Γ2 o2) : TGs B Γ (tgCons t ts) (p :: ps) Γ2 (o1 ++ o2) := fun fr env st r => by
  obtain ⟨e1, a1, a2, a3, a4⟩ := h fr env st r
  obtain ⟨e2, b1, b2, b3, b4⟩ := k fr e1 st a2
  refine ⟨e2, ?_, b2, b3.trans a3, fun i hi => ?_⟩
  · show (t p.d env).bind (ts (PV.ds ps)) = _
    rw [a1]; exact b1
  · rw [List.mem_append, not_or] at hi
    exact (b4 i hi.2).trans (a4 i hi.1)
theorem tg_t (h : TGs B Γ ts ps Γ1 o1) : TG B Γ (tgT ts) (.tup ps) Γ1 o1 := fun fr env st r => h fr env st r
theorem rdS_set {env : Env} {st : Store} {i : Nat} {d : D} {f : List Nat} (r : RdS Γ env st) (w : Own st g d f) : RdS (Γ.set i (sg g)) (env.set i (some d)) st := by
  refine ⟨by simp [r.len], fun j o g' e => ?_⟩
  by_cases h : i = j
  · subst h
    by_cases hl : i < Γ.length
    · rw [List.getElem?_set_self hl] at e
      simp only [Option.some.injEq, Prod.mk.injEq] at e
      obtain ⟨_, rfl⟩ := e
      exact ⟨d, f, List.getElem?_set_self (by rw [← r.len]; exact hl), w⟩
    · rw [List.getElem?_eq_none (by simp; omega)] at e; cases e
  · rw [List.getElem?_set_ne h] at e ⊢
    exact r.get j o g' e
theorem tr_n {i : Nat} : TR Γ (tgN i) g (Γ.set i (sg g)) := fun env st d f r w => ⟨_, rfl, rdS_set r w⟩
theorem trs_nil : TRs Γ tgNil [] Γ := fun env st ds f r w => by cases w; exact ⟨env, rfl, r⟩
theorem trs_cons (h : TR Γ t g Γ1) (k : TRs Γ1 ts gs Γ2) : TRs Γ (tgCons t ts) (g :: gs) Γ2 := fun env st ds f r w => by
  cases w with
  | cons w1 w2 =>
    obtain ⟨e1, a1, a2⟩ := h env st _ _ r w1
    obtain ⟨e2, b1, b2⟩ := k e1 st _ _ a2 w2
    refine ⟨e2, ?_, b2⟩
    show (t _ env).bind (ts _) = _
    rw [a1]; exact b1
theorem tr_t (h : TRs Γ ts gs Γ1) : TR Γ (tgT ts) (.tp gs) Γ1 := fun env st d f r w => by
  cases w with
  | tp w => exact h env st _ _ r w
  | obj h o => cases o
theorem tr_tm (h : TRs Γ ts (ps.map .im) Γ1) : TR Γ (tgT ts) (.im (.tup ps)) Γ1 := fun env st d f r w => by
  obtain ⟨rfl, rfl⟩ := w.im_inv
  exact h env st _ [] r (Owns.ims ps)
end

/-! ### sources -/
/-- what is gone through: it stays whatever is done -/
def WI (B : List O → Prop) (Γ : Sl) (it : FI) {α τ : Type} (m : W α) (L : α → List τ) (e : τ → PV) (Γ' : α → Sl) : Prop := ∀ fr env st Q X, Rel B Γ fr env st → m Q X →
  OutP (it env st) (fun q s => ∃ a, Q a ∧ q.xs = (L a).map (fun x => (e x).d) ∧ (∀ s', q.ok s') ∧ Rel B (Γ' a) fr env s ∧ Keep fr st s) (XP B X fr st)
/-- what is gone through: a name's list -/
def WIv (it : FI) (k : Nat) : Prop := ∀ env st n xs, env[k]? = some (some (.ref n)) → st[n]? = some (.lst xs) → it env st = .ok ⟨xs, Sq.at n xs⟩ st
/-- what is looked through -/
def WIp (Γ : Sl) (it : FI) {τ : Type} (m : W (List τ)) (v : τ → G) : Prop := ∀ env st Q X, RdS Γ env st → m Q X → ∃ xs q f, Q xs ∧ it env st = .ok q st ∧ Owns st (xs.map v) q.xs f ∧ q.ok st
theorem Owns.pv {st : Store} {τ : Type} (e : τ → PV) (xs : List τ) : Owns st (xs.map (gM e)) (xs.map fun x => (e x).d) [] := by
  have := Owns.ims (st := st) (xs.map e)
  rw [PV.ds_map, List.map_map, List.map_map] at this
  exact this
theorem Owns.pv_inv {st : Store} {τ : Type} {e : τ → PV} {xs : List τ} {ds : List D} {f : List Nat} (h : Owns st (xs.map (gM e)) ds f) : ds = (xs.map fun x => (e x).d) ∧ f = [] := by
  have h' : Owns st ((xs.map e).map .im) ds f := by rwa [List.map_map]
  obtain ⟨rfl, rfl⟩ := h'.ims_inv
  rw [PV.ds_map, List.map_map]
  exact ⟨rfl, rfl⟩
theorem Own.lst_inv {st : Store} {gs : List G} {d : D} {fs : List Nat} (h : Own st (.lst gs) d fs) : ∃ n ds f, d = .ref n ∧ st[n]? = some (.lst ds) ∧ Owns st gs ds f ∧ fs = n :: f := by
  cases h with
  | obj h o =>
    cases o with
    | lst o => exact ⟨_, _, _, rfl, h, o, rfl⟩
section
variable {B : List O → Prop} {Γ : Sl} {f : FE} {α τ : Type} {e : τ → PV}
theorem ROwn.tup_inv {st : Store} {p : PV} {r : R} {fs : List Nat} (h : ROwn st r (.im p) fs) : r = .v p.d ∧ fs = [] := by
  cases h with
  | v h => obtain ⟨rfl, rfl⟩ := h.im_inv; exact ⟨rfl, rfl⟩
  | o h => cases h
/-- a tuple; m tells it -/
abbrev eS (e : τ → PV) : List τ → PV := fun xs => .tup (xs.map e)
theorem eS_d (e : τ → PV) (xs : List τ) : (eS e xs).d = .tup (xs.map fun x => (e x).d) := by
  show PV.d (.tup _) = _
  rw [PV.d, PV.ds_map, List.map_map]; rfl
theorem wip_t {m : W (List τ)} (h : WP Γ f m (gM (eS e))) : WIp Γ (fIt f) m (gM e) := fun env st Q X r q => by
  obtain ⟨xs, rr, fv, h1, h2, h3⟩ := h env st Q X r q
  obtain ⟨rfl, rfl⟩ := h3.tup_inv
  refine ⟨xs, ⟨xs.map fun x => (e x).d, Sq.any⟩, [], h1, ?_, Owns.pv e xs, trivial⟩
  rw [ev_it h2, eS_d]; rfl
theorem wip_l {m : W (List τ)} {v : τ → G} (h : WP Γ f m (gL v)) : WIp Γ (fIt f) m v := fun env st Q X r q => by
  obtain ⟨xs, rr, fv, h1, h2, h3⟩ := h env st Q X r q
  cases h3 with
  | v h3 =>
    obtain ⟨n, ds, f', rfl, k1, k2, rfl⟩ := h3.lst_inv
    exact ⟨xs, ⟨ds, Sq.at n ds⟩, f', h1, by rw [ev_it h2]; simp only [sqOf, k1], k2, k1⟩
  | o h3 =>
    cases h3 with
    | lst h3 => exact ⟨xs, ⟨_, Sq.any⟩, fv, h1, by rw [ev_it h2]; rfl, h3, trivial⟩
theorem wi_t {m : W α} {L : α → List τ} {Γ' : α → Sl} (h : WE B Γ f m (fun a => gM (eS e) (L a)) Γ') : WI B Γ (fIt f) m L e Γ' := fun fr env st Q X r q => by
  unfold fIt
  refine (h fr env st Q X r q).bind (fun rr s ⟨a, fv, h1, h2, h3, h4⟩ => ?_) fun _ _ h => h
  obtain ⟨rfl, rfl⟩ := h2.tup_inv
  rw [eS_d]
  exact ⟨a, h1, rfl, fun _ => trivial, h3, h4⟩
/-- a new list that nobody else has -/
theorem wi_l {m : W α} {L : α → List τ} {Γ' : α → Sl} (h : WE B Γ f m (fun a => gL (gM e) (L a)) Γ') (hn : ∀ env st s d, f env st ≠ .ok (.v d) s) : WI B Γ (fIt f) m L e Γ' := fun fr env st Q X r q => by
  unfold fIt
  have h' := h fr env st Q X r q
  have hn' := hn env st
  generalize f env st = o at h' hn'
  cases o with
  | stuck => exact h'
  | exc x s => exact h'
  | ok rr s =>
    obtain ⟨a, fv, h1, h2, h3, h4⟩ := h'
    cases h2 with
    | v h2 => exact absurd rfl (hn' s _)
    | o h2 =>
      cases h2 with
      | lst h2 =>
        obtain ⟨rfl, rfl⟩ := Owns.pv_inv h2
        exact ⟨a, h1, rfl, fun _ => trivial, h3, h4⟩
theorem wiv (k : Nat) : WIv (fIt (fName k)) k := fun env st n xs h1 h2 => by
  rw [ev_it (ev_name h1)]
  simp only [sqOf, h2]
/-- numbers -/
def rngP (lo : Int) (n : Nat) : List Int := (List.range n).map fun i => lo + (i : Nat)
theorem rngP_d (lo : Int) (n : Nat) : rngD lo n = (rngP lo n).map fun x => (PV.int x).d := by
  unfold rngD rngP; rw [List.map_map]; rfl
def rng1 (j : Int) : W (List Int) := W.need (j < 1000000000 ∧ -1000000000 < j) (W.pure (rngP 0 j.toNat))
def rng2 (i j : Int) : W (List Int) := W.need ((i < 1000000000 ∧ -1000000000 < i) ∧ (j < 1000000000 ∧ -1000000000 < j)) (W.pure (rngP i (j - i).toNat))
theorem wip_rng1 {m : W Int} (h : WP Γ f m (gM .int)) : WIp Γ (fRng1 f) (m.bind rng1) (gM .int) := fun env st Q X r q => by
  obtain ⟨j, rr, fv, ⟨c, h1⟩, h2, h3⟩ := h env st _ X r q
  obtain ⟨rfl, rfl⟩ := h3.tup_inv
  refine ⟨_, ⟨rngD 0 j.toNat, Sq.any⟩, [], h1, ?_, by rw [rngP_d]; exact Owns.pv _ _, trivial⟩
  unfold fRng1
  rw [h2]
  show (if _ then _ else _) = _
  rw [if_pos c]
theorem wi_rng1 {m : W Int} (h : WE B Γ f m (gM .int) fun _ => Γ) : WI B Γ (fRng1 f) (m.bind rng1) (fun xs => xs) .int (fun _ => Γ) := fun fr env st Q X r q => by
  unfold fRng1
  refine (h fr env st _ X r q).bind (fun rr s ⟨j, fv, ⟨c, h1⟩, h2, h3, h4⟩ => ?_) fun _ _ h => h
  obtain ⟨rfl, rfl⟩ := h2.tup_inv
  show OutP (if _ then _ else _) _ _
  rw [if_pos c]
  exact ⟨_, h1, rngP_d _ _, fun _ => trivial, h3, h4⟩
theorem wip_rng2 {fb : FE} {m n : W Int} (h : WP Γ f m (gM .int)) (h' : WP Γ fb n (gM .int)) : WIp Γ (fRng2 f fb) (m.bind fun i => n.bind fun j => rng2 i j) (gM .int) := fun env st Q X r q => by
  obtain ⟨i, ra, fa, q1, e1, o1⟩ := h env st _ X r q
  obtain ⟨j, rb, fb, ⟨c, q2⟩, e2, o2⟩ := h' env st _ X r q1
  obtain ⟨rfl, rfl⟩ := o1.tup_inv
  obtain ⟨rfl, rfl⟩ := o2.tup_inv
  refine ⟨_, ⟨rngD i (j - i).toNat, Sq.any⟩, [], q2, ?_, by rw [rngP_d]; exact Owns.pv _ _, trivial⟩
  unfold fRng2
  rw [e1]
  simp only [Out.bind_ok]
  rw [e2]
  show (if _ then _ else _) = _
  rw [if_pos c]
/-- what is only looked at is a source, if it is no name's list -/
theorem wi_p {it : FI} {m : W (List τ)} (h : WIp Γ it m (gM e)) (hk : ∀ env st q s, it env st = .ok q s → ∀ s', q.ok s') : WI B Γ it m (fun xs => xs) e (fun _ => Γ) := fun fr env st Q X r q => by
  obtain ⟨xs, qq, f', h1, h2, h3, h4⟩ := h env st Q X r.rd q
  rw [h2]
  obtain ⟨e1, _⟩ := Owns.pv_inv h3
  exact ⟨xs, h1, e1, hk _ _ _ _ h2, r, .refl⟩
end

/-! ### scope -/
def Filled (Γ : Sl) (e0 : Env) : Prop := ∀ (i : Nat) (z : Option Nat × G), Γ[i]? = some (some z) → ∃ d : D, e0[i]? = some (some d)
section
variable {B : List O → Prop} {Γ Γ' : Sl} {fr : List Nat} {env env' e0 : Env} {st s : Store}
theorem REs.scope : ∀ {Γ : Sl} {env : Env} {fs : List Nat} {e0 : Env}, REs st Γ env fs → e0.length = env.length → Filled Γ e0 → REs st Γ (Fx.scope e0 env) fs
  | _, _, _, [], .nil, _, _ => .nil
  | _, _, _, [], .no _, h, _ => by simp at h
  | _, _, _, [], .yes _ _ _, h, _ => by simp at h
  | _, _, _, a :: e0, .nil, h, _ => by simp at h
  | _, _, _, a :: e0, .no t, h, k => .no (t.scope (by simpa using h) fun i z e => by simpa using k (i + 1) z (by simpa using e))
  | _, _, _, a :: e0, .yes w p t, h, k => by
    obtain ⟨d, hd⟩ := k 0 _ rfl
    simp at hd
    subst hd
    exact .yes w p (t.scope (by simpa using h) fun i z e => by simpa using k (i + 1) z (by simpa using e))
theorem Rel.scope (r : Rel B Γ fr env st) (h : e0.length = env.length) (k : Filled Γ e0) : Rel B Γ fr (Fx.scope e0 env) st := let ⟨fs, a, b⟩ := r; ⟨fs, a.scope h k, b⟩
theorem Rel.filled (r : Rel B Γ fr env st) (h : SameDom Γ' Γ) : Filled Γ' env := fun i z e => by
  obtain ⟨⟨o, g⟩, hz⟩ := h.at ⟨z, e⟩
  obtain ⟨d, f, h1, _⟩ := r.read hz
  exact ⟨d, h1⟩
end

/-! ### for -/
section
variable {B : List O → Prop} {Γ : Sl} {it : FI} {tg : FG} {body : FS} {α τ σ ρ : Type} {e : τ → PV}
theorem forN_sim {ok : Store → Prop} {Gs : σ → Sl} {Gt : τ → σ → Sl} {own : List Nat} {b : τ → σ → W σ} {e0 : Env} (hok : ∀ s fr env st, Rel B (Gs s) fr env st → ok st)
    (ht : ∀ x s, TG B (Gs s) tg (e x) (Gt x s) own) (hb : ∀ x s, WS B (Gt x s) body (b x s) (fun s' => .nx (Gs s'))) (hf : ∀ s, Filled (Gs s) e0) (hl : ∀ s, (Gs s).length = e0.length) :
    ∀ (xs : List τ) (s : σ) (fr : List Nat) (env : Env) (st : Store) (Q : σ → Prop) (X : Xc → Prop), Rel B (Gs s) fr env st → W.forN b xs s Q X → SP B fr st (fun s => .nx (Gs s)) Q X (forL ok tg body e0 (xs.map fun x => (e x).d) env st)
  | [], s, fr, env, st, Q, X, r, q => by
    have hle : e0.length = env.length := by rw [← r.len, hl]
    show SP B fr st _ Q X (forL ok tg body e0 [] env st)
    unfold forL
    rw [if_pos ⟨hok s fr env st r, hle⟩]
    exact ⟨s, _, q, rfl, r.scope hle (hf s), .refl⟩
  | x :: xs, s, fr, env, st, Q, X, r, q => by
    have hle : e0.length = env.length := by rw [← r.len, hl]
    obtain ⟨env1, t1, t2, t3, _⟩ := ht x s fr _ st (r.scope hle (hf s))
    have h := hb x s fr env1 st _ X t2 q
    show SP B fr st _ Q X (forL ok tg body e0 (_ :: _) env st)
    unfold forL
    rw [if_pos ⟨hok s fr env st r, hle⟩, t1]
    simp only
    generalize body env1 st = o at h
    cases o with
    | next e1 s1 =>
      obtain ⟨a, Γ1, h1, h2, h3, h4⟩ := h
      cases h2
      exact (forN_sim hok ht hb hf hl xs a fr e1 s1 Q X h3 h1).same h4
    | ret _ _ => obtain ⟨_, _, _, _, _, _, h2, _⟩ := h; cases h2
    | brk _ _ => obtain ⟨_, _, _, h2, _⟩ := h; cases h2
    | cont _ _ => obtain ⟨_, _, _, h2, _⟩ := h; cases h2
    | exc x1 e1 s1 => exact h
    | stuck => exact h
abbrev JC (Gs : σ → Sl) (v : ρ → G) (Γe : ρ → Sl) : Ctl σ ρ → Fin := fun c => match c with
  | .next s => .nx (Gs s)
  | .ret r => .rt (v r) (Γe r)
  | .brk s => .bk (Gs s)
  | .cont s => .ct (Gs s)
abbrev JL (Gs : σ → Sl) (v : ρ → G) (Γe : ρ → Sl) : Lp σ ρ → Fin := fun c => match c with
  | .next s => .nx (Gs s)
  | .ret r => .rt (v r) (Γe r)
theorem forC_sim {ok : Store → Prop} {Gs : σ → Sl} {Gt : τ → σ → Sl} {own : List Nat} {b : τ → σ → W (Ctl σ ρ)} {v : ρ → G} {Γe : ρ → Sl} {e0 : Env} (hok : ∀ s fr env st, Rel B (Gs s) fr env st → ok st)
    (ht : ∀ x s, TG B (Gs s) tg (e x) (Gt x s) own) (hb : ∀ x s, WS B (Gt x s) body (b x s) (JC Gs v Γe)) (hf : ∀ s, Filled (Gs s) e0) (hl : ∀ s, (Gs s).length = e0.length) :
    ∀ (xs : List τ) (s : σ) (fr : List Nat) (env : Env) (st : Store) (Q : Lp σ ρ → Prop) (X : Xc → Prop), Rel B (Gs s) fr env st → W.forC b xs s Q X → SP B fr st (JL Gs v Γe) Q X (forL ok tg body e0 (xs.map fun x => (e x).d) env st)
  | [], s, fr, env, st, Q, X, r, q => by
    have hle : e0.length = env.length := by rw [← r.len, hl]
    show SP B fr st _ Q X (forL ok tg body e0 [] env st)
    unfold forL
    rw [if_pos ⟨hok s fr env st r, hle⟩]
    exact ⟨.next s, _, q, rfl, r.scope hle (hf s), .refl⟩
  | x :: xs, s, fr, env, st, Q, X, r, q => by
    have hle : e0.length = env.length := by rw [← r.len, hl]
    obtain ⟨env1, t1, t2, t3, _⟩ := ht x s fr _ st (r.scope hle (hf s))
    have h := hb x s fr env1 st _ X t2 q
    show SP B fr st _ Q X (forL ok tg body e0 (_ :: _) env st)
    unfold forL
    rw [if_pos ⟨hok s fr env st r, hle⟩, t1]
    simp only
    generalize body env1 st = o at h
    cases o with
    | next e1 s1 =>
      obtain ⟨a, Γ1, h1, h2, h3, h4⟩ := h
      cases a with
      | next a => cases h2; exact (forC_sim hok ht hb hf hl xs a fr e1 s1 Q X h3 h1).same h4
      | _ => cases h2
    | cont e1 s1 =>
      obtain ⟨a, Γ1, h1, h2, h3, h4⟩ := h
      cases a with
      | cont a => cases h2; exact (forC_sim hok ht hb hf hl xs a fr e1 s1 Q X h3 h1).same h4
      | _ => cases h2
    | brk e1 s1 =>
      obtain ⟨a, Γ1, h1, h2, h3, h4⟩ := h
      cases a with
      | brk a =>
        cases h2
        have hle1 : e0.length = e1.length := by rw [← h3.len, hl]
        show SP B fr st _ Q X (if _ then _ else _)
        rw [if_pos hle1]
        exact ⟨.next a, _, h1, rfl, h3.scope hle1 (hf a), h4⟩
      | _ => cases h2
    | ret rr s1 =>
      obtain ⟨a, g, Γ1, fv, e1, h1, h2, h3, h4, h5⟩ := h
      cases a with
      | ret a => cases h2; exact ⟨.ret a, _, _, fv, e1, h1, rfl, h3, h4, h5⟩
      | _ => cases h2
    | exc x1 e1 s1 => exact h
    | stuck => exact h
/-- what stands in a slot is pinned, and unpinned -/
theorem Rel.pin {fr : List Nat} {env : Env} {st : Store} {k : Nat} {o : Option Nat} {gs : List G} (r : Rel B Γ fr env st) (h : Γ[k]? = some (some (o, .lst gs))) : ∃ n ds f, env[k]? = some (some (.ref n)) ∧ st[n]? = some (.lst ds) ∧ Owns st gs ds f ∧ (∀ n', o = some n' → D.ref n = .ref n') ∧ Rel B (Γ.set k (pn n (.lst gs))) fr env st := by
  obtain ⟨d, f, h1, h2, h3, h4⟩ := r.take h
  have h2' := h2
  obtain ⟨n, ds, f', rfl, k1, k2, rfl⟩ := h2.lst_inv
  refine ⟨n, ds, f', h1, k1, k2, h3, ?_⟩
  have hl : k < (Γ.set k none).length := by simp; exact (List.getElem?_eq_some_iff.mp h).1
  have := h4.back (o := some n) hl h1 h2' (fun n' e => by cases e; rfl)
  rwa [List.set_set] at this
theorem Rel.unpin {fr : List Nat} {env : Env} {st : Store} {k n : Nat} {o : Option Nat} {g : G} {Γ1 : Sl} (r : Rel B Γ1 fr env st) (h : Γ1[k]? = some (pn n g)) (p : ∀ n', o = some n' → D.ref n = .ref n') : Rel B (Γ1.set k (some (o, g))) fr env st := by
  obtain ⟨d, f, h1, h2, h3, h4⟩ := r.take h
  have hd := h3 n rfl
  subst hd
  have hl : k < (Γ1.set k none).length := by simp; exact (List.getElem?_eq_some_iff.mp h).1
  have := h4.back (o := o) hl h1 h2 p
  rwa [List.set_set] at this
theorem SP.nxmap {ε : Type} {fr : List Nat} {st : Store} {G1 G2 : ε → Sl} {Q : ε → Prop} {X : Xc → Prop} {o : OutS} (h : SP B fr st (fun a => .nx (G1 a)) Q X o) (p : ∀ a e s, Rel B (G1 a) fr e s → Rel B (G2 a) fr e s) : SP B fr st (fun a => .nx (G2 a)) Q X o := by
  cases o with
  | next e s => obtain ⟨a, Γ1, h1, h2, h3, h4⟩ := h; cases h2; exact ⟨a, _, h1, rfl, p _ _ _ h3, h4⟩
  | ret _ _ => obtain ⟨_, _, _, _, _, _, h2, _⟩ := h; cases h2
  | brk _ _ => obtain ⟨_, _, _, h2, _⟩ := h; cases h2
  | cont _ _ => obtain ⟨_, _, _, h2, _⟩ := h; cases h2
  | exc x e s => exact h
  | stuck => exact h
theorem SP.lpmap {fr : List Nat} {st : Store} {G1 G2 : σ → Sl} {v : ρ → G} {Γe : ρ → Sl} {Q : Lp σ ρ → Prop} {X : Xc → Prop} {o : OutS} (h : SP B fr st (JL G1 v Γe) Q X o) (p : ∀ a e s, Rel B (G1 a) fr e s → Rel B (G2 a) fr e s) : SP B fr st (JL G2 v Γe) Q X o := by
  cases o with
  | next e s =>
    obtain ⟨a, Γ1, h1, h2, h3, h4⟩ := h
    cases a with
    | next a => cases h2; exact ⟨.next a, _, h1, rfl, p _ _ _ h3, h4⟩
    | ret a => cases h2
  | ret r s =>
    obtain ⟨a, g, Γ1, fv, e1, h1, h2, h3, h4, h5⟩ := h
    cases a with
    | next a => cases h2
    | ret a => cases h2; exact ⟨.ret a, _, _, fv, e1, h1, rfl, h3, h4, h5⟩
  | brk _ _ => obtain ⟨a, _, _, h2, _⟩ := h; cases a <;> cases h2
  | cont _ _ => obtain ⟨a, _, _, h2, _⟩ := h; cases a <;> cases h2
  | exc x e s => exact h
  | stuck => exact h
theorem ws_for {m : W α} {L : α → List τ} {Γ' : α → Sl} {s0 : α → σ} {Gs : α → σ → Sl} {Gt : α → τ → σ → Sl} {own : List Nat} {b : α → τ → σ → W σ} (hi : WI B Γ it m L e Γ') (h0 : ∀ a, Less (Gs a (s0 a)) (Γ' a)) (hd : ∀ a s, SameDom (Gs a s) (Gs a (s0 a)))
    (ht : ∀ a x s, TG B (Gs a s) tg (e x) (Gt a x s) own) (hb : ∀ a x s, WS B (Gt a x s) body (b a x s) (fun s' => .nx (Gs a s'))) : WS B Γ (fFor it tg body) (m.bind fun a => (W.forN (b a) (L a) (s0 a)).bind fun s => W.pure (a, s)) (fun as => .nx (Gs as.1 as.2)) := fun fr env st Q X r q => by
  unfold fFor
  refine thenS_P (hi fr env st _ X r q) fun qq s ⟨a, h1, h2, h3, h4, h5⟩ => ?_
  rw [h2]
  have r0 := h4.less (h0 a)
  have hl : ∀ s, (Gs a s).length = env.length := fun s => by
    rw [← r0.len]
    have := congrArg List.length (hd a s)
    simpa using this
  have := (forN_sim (fun _ _ _ s' _ => h3 s') (ht a) (hb a) (fun s => r0.filled (hd a s)) hl (L a) (s0 a) fr env s (fun s => Q (a, s)) X r0 h1).same h5
  exact this.map fun s qs => ⟨(a, s), qs, rfl⟩
theorem ws_forP {m : W (List τ)} {Γ' : Sl} {s0 : σ} {Gs : σ → Sl} {Gt : τ → σ → Sl} {own : List Nat} {b : τ → σ → W σ} (hi : WI B Γ it m (fun xs => xs) e (fun _ => Γ')) (h0 : Less (Gs s0) Γ') (hd : ∀ s, SameDom (Gs s) (Gs s0))
    (ht : ∀ x s, TG B (Gs s) tg (e x) (Gt x s) own) (hb : ∀ x s, WS B (Gt x s) body (b x s) (fun s' => .nx (Gs s'))) : WS B Γ (fFor it tg body) (m.bind fun xs => W.forN b xs s0) (fun s => .nx (Gs s)) := fun fr env st Q X r q => by
  have := ws_for (s0 := fun _ => s0) (Gs := fun _ => Gs) hi (fun _ => h0) (fun _ => hd) (fun _ => ht) (fun _ => hb) fr env st (fun as => Q as.2) X r q
  exact this.map fun a qa => ⟨a.2, qa, rfl⟩
theorem ws_forL {m : W α} {L : α → List τ} {Γ' : α → Sl} {s0 : α → σ} {Gs : α → σ → Sl} {Gt : α → τ → σ → Sl} {own : List Nat} {b : α → τ → σ → W (Ctl σ ρ)} {v : ρ → G} {Γe : ρ → Sl} (hi : WI B Γ it m L e Γ') (h0 : ∀ a, Less (Gs a (s0 a)) (Γ' a)) (hd : ∀ a s, SameDom (Gs a s) (Gs a (s0 a)))
    (ht : ∀ a x s, TG B (Gs a s) tg (e x) (Gt a x s) own) (hb : ∀ a x s, WS B (Gt a x s) body (b a x s) (JC (Gs a) v Γe)) : WS B Γ (fFor it tg body) (m.bind fun a => (W.forC (b a) (L a) (s0 a)).bind fun c => W.pure (match c with | .next s => Lp.next (a, s) | .ret r => Lp.ret r)) (JL (fun as => Gs as.1 as.2) v Γe) := fun fr env st Q X r q => by
  unfold fFor
  refine thenS_P (hi fr env st _ X r q) fun qq s ⟨a, h1, h2, h3, h4, h5⟩ => ?_
  rw [h2]
  have r0 := h4.less (h0 a)
  have hl : ∀ s, (Gs a s).length = env.length := fun s => by
    rw [← r0.len]
    have := congrArg List.length (hd a s)
    simpa using this
  have := (forC_sim (fun _ _ _ s' _ => h3 s') (ht a) (hb a) (fun s => r0.filled (hd a s)) hl (L a) (s0 a) fr env s _ X r0 h1).same h5
  exact this.map fun c qc => ⟨_, qc, by cases c <;> rfl⟩
theorem ws_forLP {m : W (List τ)} {Γ' : Sl} {s0 : σ} {Gs : σ → Sl} {Gt : τ → σ → Sl} {own : List Nat} {b : τ → σ → W (Ctl σ ρ)} {v : ρ → G} {Γe : ρ → Sl} (hi : WI B Γ it m (fun xs => xs) e (fun _ => Γ')) (h0 : Less (Gs s0) Γ') (hd : ∀ s, SameDom (Gs s) (Gs s0))
    (ht : ∀ x s, TG B (Gs s) tg (e x) (Gt x s) own) (hb : ∀ x s, WS B (Gt x s) body (b x s) (JC Gs v Γe)) : WS B Γ (fFor it tg body) (m.bind fun xs => W.forC b xs s0) (JL Gs v Γe) := fun fr env st Q X r q => by
  unfold fFor
  refine thenS_P (hi fr env st _ X r q) fun qq s ⟨a, h1, h2, h3, h4, h5⟩ => ?_
  rw [h2]
  have r0 := h4.less h0
  have hl : ∀ s, (Gs s).length = env.length := fun s => by
    rw [← r0.len]
    have := congrArg List.length (hd s)
    simpa using this
  exact (forC_sim (fun _ _ _ s' _ => h3 s') ht hb (fun s => r0.filled (hd s)) hl a s0 fr env s Q X r0 h1).same h5
/-- through a name's list: it is pinned in the meantime -/
theorem ws_forV {k : Nat} {o : Option Nat} {xs : List τ} {s0 : σ} {Gs : σ → Sl} {Gt : Nat → τ → σ → Sl} {own : List Nat} {b : τ → σ → W σ} (hi : WIv it k) (hk : ∀ s, (Gs s)[k]? = some (some (o, gL (gM e) xs))) (h0 : Less (Gs s0) Γ) (hd : ∀ s, SameDom (Gs s) (Gs s0))
    (ht : ∀ n x s, TG B ((Gs s).set k (pn n (gL (gM e) xs))) tg (e x) (Gt n x s) own) (hb : ∀ n x s, WS B (Gt n x s) body (b x s) (fun s' => .nx ((Gs s').set k (pn n (gL (gM e) xs))))) : WS B Γ (fFor it tg body) (W.forN b xs s0) (fun s => .nx (Gs s)) := fun fr env st Q X r q => by
  have r0 := r.less h0
  obtain ⟨n, ds, f, h1, h2, h3, h4, h5⟩ := r0.pin (hk s0)
  obtain ⟨rfl, rfl⟩ := Owns.pv_inv h3
  unfold fFor
  rw [hi env st n _ h1 h2]
  show SP B fr st _ Q X (forL _ tg body env _ env st)
  have hkl : ∀ s, k < (Gs s).length := fun s => (List.getElem?_eq_some_iff.mp (hk s)).1
  have hd' : ∀ s, SameDom ((Gs s).set k (pn n (gL (gM e) xs))) ((Gs s0).set k (pn n (gL (gM e) xs))) := fun s => by
    show List.map _ _ = List.map _ _
    rw [List.map_set, List.map_set, hd s]
  have hl : ∀ s, ((Gs s).set k (pn n (gL (gM e) xs))).length = env.length := fun s => by
    rw [← h5.len]
    have := congrArg List.length (hd' s)
    simpa using this
  have := forN_sim (ok := Sq.at n (xs.map fun x => (e x).d)) (Gs := fun s => (Gs s).set k (pn n (gL (gM e) xs))) (fun s fr' env' st' r' => by
    obtain ⟨d, f', k1, k2, k3, _⟩ := r'.take (i := k) (o := some n) (g := gL (gM e) xs) (List.getElem?_set_self (hkl s))
    have hd := k3 n rfl
    subst hd
    obtain ⟨n', ds', f'', z1, z2, z3, _⟩ := k2.lst_inv
    cases z1
    obtain ⟨rfl, _⟩ := Owns.pv_inv z3
    exact z2) (ht n) (hb n) (fun s => h5.filled (hd' s)) hl xs s0 fr env st Q X h5 q
  refine this.nxmap fun s e1 s1 r1 => ?_
  have := r1.unpin (o := o) (List.getElem?_set_self (hkl s)) h4
  rw [List.set_set, set_same (hk s)] at this
  exact this
theorem ws_forVL {k : Nat} {o : Option Nat} {xs : List τ} {s0 : σ} {Gs : σ → Sl} {Gt : Nat → τ → σ → Sl} {own : List Nat} {b : τ → σ → W (Ctl σ ρ)} {v : ρ → G} {Γe : ρ → Sl} (hi : WIv it k) (hk : ∀ s, (Gs s)[k]? = some (some (o, gL (gM e) xs))) (h0 : Less (Gs s0) Γ) (hd : ∀ s, SameDom (Gs s) (Gs s0))
    (ht : ∀ n x s, TG B ((Gs s).set k (pn n (gL (gM e) xs))) tg (e x) (Gt n x s) own) (hb : ∀ n x s, WS B (Gt n x s) body (b x s) (JC (fun s' => (Gs s').set k (pn n (gL (gM e) xs))) v Γe)) : WS B Γ (fFor it tg body) (W.forC b xs s0) (JL Gs v Γe) := fun fr env st Q X r q => by
  have r0 := r.less h0
  obtain ⟨n, ds, f, h1, h2, h3, h4, h5⟩ := r0.pin (hk s0)
  obtain ⟨rfl, rfl⟩ := Owns.pv_inv h3
  unfold fFor
  rw [hi env st n _ h1 h2]
  show SP B fr st _ Q X (forL _ tg body env _ env st)
  have hkl : ∀ s, k < (Gs s).length := fun s => (List.getElem?_eq_some_iff.mp (hk s)).1
  have hd' : ∀ s, SameDom ((Gs s).set k (pn n (gL (gM e) xs))) ((Gs s0).set k (pn n (gL (gM e) xs))) := fun s => by
    show List.map _ _ = List.map _ _
    rw [List.map_set, List.map_set, hd s]
  have hl : ∀ s, ((Gs s).set k (pn n (gL (gM e) xs))).length = env.length := fun s => by
    rw [← h5.len]
    have := congrArg List.length (hd' s)
    simpa using this
  have := forC_sim (ok := Sq.at n (xs.map fun x => (e x).d)) (Gs := fun s => (Gs s).set k (pn n (gL (gM e) xs))) (fun s fr' env' st' r' => by
    obtain ⟨d, f', k1, k2, k3, _⟩ := r'.take (i := k) (o := some n) (g := gL (gM e) xs) (List.getElem?_set_self (hkl s))
    have hd := k3 n rfl
    subst hd
    obtain ⟨n', ds', f'', z1, z2, z3, _⟩ := k2.lst_inv
    cases z1
    obtain ⟨rfl, _⟩ := Owns.pv_inv z3
    exact z2) (ht n) (hb n) (fun s => h5.filled (hd' s)) hl xs s0 fr env st Q X h5 q
  refine this.lpmap fun s e1 s1 r1 => ?_
  have := r1.unpin (o := o) (List.getElem?_set_self (hkl s)) h4
  rw [List.set_set, set_same (hk s)] at this
  exact this
end
end Fx

set_option Elab.async false
set_option linter.all false
set_option maxRecDepth 100000
set_option maxHeartbeats 4000000
set_option autoImplicit false
/-! Fx, part Za: while, lists by a for within, defs. -/
namespace Fx
open PySem PySem.Spec PyProof.Rows L2
variable [BagAt]

/-! ### while -/
section
variable {B : List O → Prop} {Γ : Sl} {c : FB} {body : FS} {σ ρ : Type}
theorem whN_sim {Gs : σ → Sl} {mc : σ → W Bool} {b : σ → W σ} {e0 : Env} (hc : ∀ s, WT B (Gs s) c (mc s)) (hb : ∀ s, WS B (Gs s) body (b s) (fun s' => .nx (Gs s'))) (hf : ∀ s, Filled (Gs s) e0) (hl : ∀ s, (Gs s).length = e0.length) :
    ∀ (k : Nat) (s : σ) (fr : List Nat) (env : Env) (st : Store) (Q : σ → Prop) (X : Xc → Prop), Rel B (Gs s) fr env st → W.whN mc b k s Q X → SP B fr st (fun s => .nx (Gs s)) Q X (whileL c body e0 k env st)
  | 0, s, fr, env, st, Q, X, r, q => q.elim
  | k + 1, s, fr, env, st, Q, X, r, q => by
    unfold whileL
    refine thenS_P (hc s fr env st _ X r q) fun x s1 ⟨h1, h2, h3⟩ => ?_
    cases x with
    | false => exact ⟨s, _, h1, rfl, h2, h3⟩
    | true =>
      have h := hb s fr env s1 _ X h2 h1
      simp only [if_true]
      generalize body env s1 = o at h
      cases o with
      | next e1 s2 =>
        obtain ⟨a, Γ1, k1, k2, k3, k4⟩ := h
        cases k2
        have hle : e0.length = e1.length := by rw [← k3.len, hl]
        simp only
        rw [if_pos hle]
        exact (whN_sim hc hb hf hl k a fr _ s2 Q X (k3.scope hle (hf a)) k1).same (h3.trans k4)
      | ret _ _ => obtain ⟨_, _, _, _, _, _, h2, _⟩ := h; cases h2
      | brk _ _ => obtain ⟨_, _, _, h2, _⟩ := h; cases h2
      | cont _ _ => obtain ⟨_, _, _, h2, _⟩ := h; cases h2
      | exc x1 e1 s1 => exact XP.same h3 h
      | stuck => exact h
theorem ws_while {Gs : σ → Sl} {mc : σ → W Bool} {b : σ → W σ} {s0 : σ} (h0 : Less (Gs s0) Γ) (hd : ∀ s, SameDom (Gs s) (Gs s0)) (hc : ∀ s, WT B (Gs s) c (mc s)) (hb : ∀ s, WS B (Gs s) body (b s) (fun s' => .nx (Gs s'))) :
    WS B Γ (fWhile c body) (W.whileN mc b s0) (fun s => .nx (Gs s)) := fun fr env st Q X r ⟨k, q⟩ => by
  have r0 := r.less h0
  have hl : ∀ s, (Gs s).length = env.length := fun s => by
    rw [← r0.len]
    have := congrArg List.length (hd s)
    simpa using this
  have h := whN_sim hc hb (fun s => r0.filled (hd s)) hl k s0 fr env st Q X r0 q
  have hn : whileL c body env k env st ≠ .stuck := fun e => by rw [e] at h; exact h
  rw [fWhile_eq k rfl hn]
  exact h
theorem whC_sim {Gs : σ → Sl} {mc : σ → W Bool} {b : σ → W (Ctl σ ρ)} {v : ρ → G} {Γe : ρ → Sl} {e0 : Env} (hc : ∀ s, WT B (Gs s) c (mc s)) (hb : ∀ s, WS B (Gs s) body (b s) (JC Gs v Γe)) (hf : ∀ s, Filled (Gs s) e0) (hl : ∀ s, (Gs s).length = e0.length) :
    ∀ (k : Nat) (s : σ) (fr : List Nat) (env : Env) (st : Store) (Q : Lp σ ρ → Prop) (X : Xc → Prop), Rel B (Gs s) fr env st → W.whC mc b k s Q X → SP B fr st (JL Gs v Γe) Q X (whileL c body e0 k env st)
  | 0, s, fr, env, st, Q, X, r, q => q.elim
  | k + 1, s, fr, env, st, Q, X, r, q => by
    unfold whileL
    refine thenS_P (hc s fr env st _ X r q) fun x s1 ⟨h1, h2, h3⟩ => ?_
    cases x with
    | false => exact ⟨.next s, _, h1, rfl, h2, h3⟩
    | true =>
      have h := hb s fr env s1 _ X h2 h1
      simp only [if_true]
      generalize body env s1 = o at h
      cases o with
      | next e1 s2 =>
        obtain ⟨a, Γ1, k1, k2, k3, k4⟩ := h
        cases a with
        | next a =>
          cases k2
          have hle : e0.length = e1.length := by rw [← k3.len, hl]
          simp only
          rw [if_pos hle]
          exact (whC_sim hc hb hf hl k a fr _ s2 Q X (k3.scope hle (hf a)) k1).same (h3.trans k4)
        | _ => cases k2
      | cont e1 s2 =>
        obtain ⟨a, Γ1, k1, k2, k3, k4⟩ := h
        cases a with
        | cont a =>
          cases k2
          have hle : e0.length = e1.length := by rw [← k3.len, hl]
          simp only
          rw [if_pos hle]
          exact (whC_sim hc hb hf hl k a fr _ s2 Q X (k3.scope hle (hf a)) k1).same (h3.trans k4)
        | _ => cases k2
      | brk e1 s2 =>
        obtain ⟨a, Γ1, k1, k2, k3, k4⟩ := h
        cases a with
        | brk a =>
          cases k2
          have hle : e0.length = e1.length := by rw [← k3.len, hl]
          simp only
          rw [if_pos hle]
          exact ⟨.next a, _, k1, rfl, k3.scope hle (hf a), h3.trans k4⟩
        | _ => cases k2
      | ret rr s2 =>
        obtain ⟨a, g, Γ1, fv, e1, k1, k2, k3, k4, k5⟩ := h
        cases a with
        | ret a => cases k2; exact ⟨.ret a, _, _, fv, e1, k1, rfl, k3, k4, h3.trans k5⟩
        | _ => cases k2
      | exc x1 e1 s1 => exact XP.same h3 h
      | stuck => exact h
theorem ws_whileL {Gs : σ → Sl} {mc : σ → W Bool} {b : σ → W (Ctl σ ρ)} {v : ρ → G} {Γe : ρ → Sl} {s0 : σ} (h0 : Less (Gs s0) Γ) (hd : ∀ s, SameDom (Gs s) (Gs s0)) (hc : ∀ s, WT B (Gs s) c (mc s)) (hb : ∀ s, WS B (Gs s) body (b s) (JC Gs v Γe)) :
    WS B Γ (fWhile c body) (W.whileC mc b s0) (JL Gs v Γe) := fun fr env st Q X r ⟨k, q⟩ => by
  have r0 := r.less h0
  have hl : ∀ s, (Gs s).length = env.length := fun s => by
    rw [← r0.len]
    have := congrArg List.length (hd s)
    simpa using this
  have h := whC_sim hc hb (fun s => r0.filled (hd s)) hl k s0 fr env st Q X r0 q
  have hn : whileL c body env k env st ≠ .stuck := fun e => by rw [e] at h; exact h
  rw [fWhile_eq k rfl hn]
  exact h
end

/-! ### lists by a for within -/
namespace W
variable {α β : Type}
def consO (o : Option β) (ys : List β) : List β := match o with
  | Option.none => ys
  | Option.some y => y :: ys
def comL' (p : α → W (Option β)) : List α → W (List β)
  | [] => W.pure []
  | x :: xs => (p x).nox.bind fun o => (comL' p xs).bind fun ys => W.pure (consO o ys)
/-- each item tells what it comes to, or nothing -/
def comO (p : α → W (Option β)) (xs : List α) : W (List β) := W.need (xs.length ≤ 1000000) (comL' p xs)
def comF (p : α → Option β) (xs : List α) : W (List β) := W.need (xs.length ≤ 1000000) (W.pure (xs.filterMap p))
end W
def wipeG (Γ : Sl) : List Nat → Sl
  | [] => Γ
  | v :: vs => (wipeG Γ vs).set v none
section
variable {B : List O → Prop} {Γ : Sl} {it : FI} {tg : FG} {tt : FB} {elt : FE} {α β τ : Type} {e : τ → PV}
/-- an item that is just looked at -/
def CF (Γ : Sl) (tt : FB) (elt : FE) (o : Option β) (e : β → PV) : Prop := ∀ env st, RdS Γ env st → match o with
  | none => tt env st = .ok false st
  | some y => tt env st = .ok true st ∧ elt env st = .ok (.v (e y).d) st
def CP (Γ : Sl) (tt : FB) (elt : FE) (m : W (Option β)) (e : β → PV) : Prop := ∀ env st Q X, RdS Γ env st → m Q X → ∃ o, Q o ∧ match o with
  | none => tt env st = .ok false st
  | some y => tt env st = .ok true st ∧ elt env st = .ok (.v (e y).d) st
def CE (B : List O → Prop) (Γ : Sl) (tt : FB) (elt : FE) (m : W (Option β)) (v : β → G) : Prop := ∀ fr env st Q X, Rel B Γ fr env st → m.nox Q X → ∃ b st1, tt env st = .ok b st1 ∧ match b with
  | false => Q none ∧ Rel B Γ fr env st1 ∧ Keep fr st st1
  | true => ∃ y r st2 fv, elt env st1 = .ok r st2 ∧ Q (some y) ∧ ROwn st2 r (v y) fv ∧ Rel B Γ (fv ++ fr) env st2 ∧ Keep fr st st2
theorem cf_if {c : Bool} {y : β} {e : β → PV} (hc : WB Γ tt c) (hy : WV Γ elt (e y)) : CF Γ tt elt (if c = true then some y else none) e := fun env st r => by
  cases c with
  | true => exact ⟨hc env st r, hy env st r⟩
  | false => exact hc env st r
theorem cf_no {e : β → PV} (hc : WB Γ tt false) : CF Γ tt elt none e := fun env st r => hc env st r
theorem wb_yes : WB Γ fYes true := fun _ _ _ => rfl
theorem cf_y {y : β} {e : β → PV} (hy : WV Γ elt (e y)) : CF Γ fYes elt (some y) e := fun env st r => ⟨rfl, hy env st r⟩
theorem cp_f {o : Option β} {e : β → PV} (h : CF Γ tt elt o e) : CP Γ tt elt (W.pure o) e := fun env st Q X r q => ⟨o, q, h env st r⟩
theorem cp_if {c : W Bool} {m : W β} {e : β → PV} (hc : WQ Γ tt c) (hy : WP Γ elt m (gM e)) : CP Γ tt elt (c.bind fun b => W.ite b (W.map some m) (W.pure none)) e := fun env st Q X r q => by
  obtain ⟨b, h1, h2⟩ := hc env st _ X r q
  cases b with
  | false => exact ⟨none, h1, h2⟩
  | true =>
    obtain ⟨y, rr, fv, k1, k2, k3⟩ := hy env st _ X r h1
    obtain ⟨rfl, _⟩ := k3.tup_inv
    exact ⟨some y, k1, h2, k2⟩
theorem ce_if {c : W Bool} {m : W β} {v : β → G} (hc : WT B Γ tt c) (hy : WE B Γ elt m v fun _ => Γ) : CE B Γ tt elt (c.bind fun b => W.ite b (W.map some m) (W.pure none)) v := fun fr env st Q X r q => by
  have h := hc fr env st _ (fun _ => False) r q
  generalize ho : tt env st = o at h
  cases o with
  | stuck => exact h.elim
  | exc x s => obtain ⟨_, _, z, _⟩ := h; exact z.elim
  | ok b s =>
    obtain ⟨h1, h2, h3⟩ := h
    refine ⟨b, s, rfl, ?_⟩
    cases b with
    | false => exact ⟨h1, h2, h3⟩
    | true =>
      have k := hy fr env s _ (fun _ => False) h2 h1
      generalize ho2 : elt env s = o2 at k
      cases o2 with
      | stuck => exact k.elim
      | exc x s => obtain ⟨_, _, z, _⟩ := k; exact z.elim
      | ok r2 s2 =>
        obtain ⟨y, fv, k1, k2, k3, k4⟩ := k
        exact ⟨y, r2, s2, fv, rfl, k1, k2, k3, h3.trans k4⟩
/-- without a test -/
theorem ce_y {m : W β} {v : β → G} (hy : WE B Γ elt m v fun _ => Γ) : CE B Γ fYes elt (W.map some m) v := fun fr env st Q X r q => ce_if (wt_b wb_yes) hy fr env st Q X r q
theorem cp_y {m : W β} {e : β → PV} (hy : WP Γ elt m (gM e)) : CP Γ fYes elt (W.map some m) e := fun env st Q X r q => cp_if (wq_b wb_yes) hy env st Q X r q
theorem wipeG_len (Γ : Sl) : ∀ own, (wipeG Γ own).length = Γ.length
  | [] => rfl
  | v :: vs => by show ((wipeG Γ vs).set v none).length = _; rw [List.length_set, wipeG_len Γ vs]
theorem rdS_wipe {env : Env} {st : Store} (r : RdS Γ env st) : ∀ own, RdS (wipeG Γ own) (wipeE env own) st
  | [] => r
  | v :: vs => by
    have ih := rdS_wipe r vs
    refine ⟨by show ((wipeG Γ vs).set v none).length = ((wipeE env vs).set v none).length; rw [List.length_set, List.length_set, ih.len], fun i o g h => ?_⟩
    show ∃ d f, ((wipeE env vs).set v none)[i]? = _ ∧ _
    have h' : ((wipeG Γ vs).set v none)[i]? = some (some (o, g)) := h
    by_cases hv : v = i
    · subst hv
      by_cases hl : v < (wipeG Γ vs).length
      · rw [List.getElem?_set_self hl] at h'; cases h'
      · rw [List.getElem?_eq_none (by simp; omega)] at h'; cases h'
    · rw [List.getElem?_set_ne hv] at h' ⊢
      exact ih.get i o g h'
theorem comp_pure {ok : Store → Prop} {Γx : τ → Sl} {Γw : Sl} {v : τ → G} {p : τ → W (Option β)} {eb : β → PV} {e0 : Env} {st : Store} (hok : ok st) (h0 : RdS Γw e0 st) (ht : ∀ x, TR Γw tg (v x) (Γx x)) (hp : ∀ x, CP (Γx x) tt elt (p x) eb) :
    ∀ (xs : List τ) (ds : List D) (f : List Nat) (acc : List D) (Q : List β → Prop) (X : Xc → Prop), Owns st (xs.map v) ds f → acc.length + ds.length ≤ 1000000 → W.comL' p xs Q X → ∃ ys, Q ys ∧ compL ok tg tt elt e0 ds acc st = .ok (.o (.lst (acc ++ ys.map fun y => (eb y).d))) st
  | [], ds, f, acc, Q, X, w, hl, q => by
    cases w
    refine ⟨[], q, ?_⟩
    unfold compL; rw [if_pos hok]; simp
  | x :: xs, ds, f, acc, Q, X, w, hl, q => by
    cases w with
    | cons w1 w2 =>
      obtain ⟨e1, t1, t2⟩ := ht x e0 st _ _ h0 w1
      obtain ⟨o, k1, k2⟩ := hp x e1 st _ (fun _ => False) t2 q
      simp only [List.length_cons] at hl
      unfold compL
      rw [if_pos hok, t1]
      cases o with
      | none =>
        simp only at k2
        simp only [k2, Out.nox, Out.bind, Bool.false_eq_true, if_false]
        obtain ⟨ys, q1, q2⟩ := comp_pure hok h0 ht hp xs _ _ acc _ X w2 (by omega) k1
        exact ⟨ys, q1, q2⟩
      | some y =>
        obtain ⟨k2, k3⟩ := k2
        simp only [k2, k3, Out.nox, Out.bind, if_true, alloc_v]
        rw [if_pos (by omega)]
        obtain ⟨ys, q1, q2⟩ := comp_pure hok h0 ht hp xs _ _ (acc ++ [(eb y).d]) _ X w2 (by simp; omega) k1
        exact ⟨y :: ys, q1, by rw [q2]; simp⟩
theorem wp_comp {m : W (List τ)} {v : τ → G} {own : List Nat} {Γx : τ → Sl} {p : τ → W (Option β)} {eb : β → PV} (hi : WIp Γ it m v) (ht : ∀ x, TR (wipeG Γ own) tg (v x) (Γx x)) (hp : ∀ x, CP (Γx x) tt elt (p x) eb) : WP Γ (fComp it tg tt elt own) (m.bind fun xs => W.comO p xs) (gL (gM eb)) := fun env st Q X r q => by
  obtain ⟨xs, qq, f, ⟨hl, h1⟩, h2, h3, h4⟩ := hi env st _ X r q
  have hlen := h3.length
  simp only [List.length_map] at hlen
  obtain ⟨ys, k1, k2⟩ := comp_pure h4 (rdS_wipe r own) ht hp xs qq.xs f [] Q X h3 (by simp; omega) h1
  refine ⟨ys, .o (.lst (ys.map fun y => (eb y).d)), [], k1, ?_, .o (.lst (Owns.pv eb ys))⟩
  rw [ev_comp h2, k2]; rfl
theorem comF_of (p : τ → Option β) (xs : List τ) {Q : List β → Prop} {X : Xc → Prop} : ∀ (zs : List τ) (Q : List β → Prop), Q (zs.filterMap p) → W.comL' (fun x => W.pure (p x)) zs Q X
  | [], Q, h => h
  | z :: zs, Q, h => by
    show W.comL' (fun x => W.pure (p x)) zs (fun ys => Q (W.consO (p z) ys)) X
    refine comF_of p xs (Q := Q) zs _ ?_
    rw [List.filterMap_cons] at h
    cases e : p z with
    | none => rw [e] at h; exact h
    | some y => rw [e] at h; exact h
theorem wp_compF {m : W (List τ)} {v : τ → G} {own : List Nat} {Γx : τ → Sl} {p : τ → Option β} {eb : β → PV} (hi : WIp Γ it m v) (ht : ∀ x, TR (wipeG Γ own) tg (v x) (Γx x)) (hp : ∀ x, CF (Γx x) tt elt (p x) eb) : WP Γ (fComp it tg tt elt own) (m.bind fun xs => W.comF p xs) (gL (gM eb)) := fun env st Q X r q => by
  obtain ⟨xs, qq, f, ⟨hl, h1⟩, h2, h3, h4⟩ := hi env st _ X r q
  have hlen := h3.length
  simp only [List.length_map] at hlen
  obtain ⟨ys, k1, k2⟩ := comp_pure h4 (rdS_wipe r own) ht (fun x => cp_f (hp x)) xs qq.xs f [] Q X h3 (by simp; omega) (comF_of p xs (Q := Q) xs Q h1)
  refine ⟨ys, .o (.lst (ys.map fun y => (eb y).d)), [], k1, ?_, .o (.lst (Owns.pv eb ys))⟩
  rw [ev_comp h2, k2]; rfl
/-- a new list that is just looked at is ours -/
theorem we_new {f : FE} {m : W (List β)} {eb : β → PV} (h : WP Γ f m (gL (gM eb))) (hn : ∀ env st s d, f env st ≠ .ok (.v d) s) : WE B Γ f m (gL (gM eb)) (fun _ => Γ) := fun fr env st Q X r q => by
  obtain ⟨a, rr, fv, h1, h2, h3⟩ := h env st Q X r.rd q
  cases h3 with
  | v h3 => exact absurd h2 (hn _ _ _ _)
  | o h3 =>
    rw [h2]
    cases h3 with
    | lst h3 =>
      obtain ⟨rfl, rfl⟩ := Owns.pv_inv h3
      exact ⟨a, [], h1, .o (.lst (Owns.pv eb a)), r, .refl⟩
theorem compL_new {ok : Store → Prop} {e0 : Env} : ∀ (ds acc : List D) (st s : Store) (d : D), compL ok tg tt elt e0 ds acc st ≠ .ok (.v d) s
  | [], acc, st, s, d => by
    unfold compL; split
    · intro h; cases h
    · intro h; cases h
  | d0 :: ds, acc, st, s, d => by
    unfold compL
    split
    · split
      · intro h
        rename_i e1 he
        generalize (tt e1 st).nox = o at h
        cases o with
        | stuck => cases h
        | exc x s => cases h
        | ok b s1 =>
          simp only [Out.bind_ok] at h
          split at h
          · generalize (elt e1 s1).nox = o at h
            cases o with
            | stuck => cases h
            | exc x s => cases h
            | ok r s2 =>
              simp only [Out.bind_ok] at h
              split at h
              · exact compL_new ds _ _ _ _ h
              · cases h
          · exact compL_new ds _ _ _ _ h
      · intro h; cases h
    · intro h; cases h
theorem comp_new {own : List Nat} : ∀ env st s d, fComp it tg tt elt own env st ≠ .ok (.v d) s := fun env st s d h => by
  unfold fComp at h
  generalize it env st = o at h
  cases o with
  | stuck => cases h
  | exc x s => cases h
  | ok q s1 => exact compL_new _ _ _ _ _ h
end

/-! ### wiping -/
section
variable {B : List O → Prop} {Γ : Sl} {env : Env} {st : Store}
theorem REs.wipe1 : ∀ {Γ : Sl} {env : Env} {fs : List Nat} (i : Nat), REs st Γ env fs → ∃ fo fs', REs st (Γ.set i none) (env.set i none) fs' ∧ fs.Perm (fo ++ fs') ∧
    ∀ (s : Store), (∀ n ∈ fo, s[n]? = st[n]?) → ∀ fs2, REs s (Γ.set i none) (env.set i none) fs2 → ∃ fs3, REs s Γ env fs3 ∧ fs3.Perm (fo ++ fs2)
  | _, _, _, i, .nil => ⟨[], [], .nil, List.Perm.refl _, fun s _ fs2 h => ⟨fs2, h, List.Perm.refl _⟩⟩
  | _, _, _, 0, .no t => ⟨[], _, .no t, List.Perm.refl _, fun s _ fs2 h => by
      cases h with
      | no h => exact ⟨fs2, .no h, List.Perm.refl _⟩⟩
  | _, _, _, 0, .yes (f := f) w p t => ⟨f, _, .no t, List.Perm.refl _, fun s k fs2 h => by
      cases h with
      | no h => exact ⟨_, .yes (w.keep k) p h, List.Perm.refl _⟩⟩
  | _, _, _, i + 1, .no t => by
    obtain ⟨fo, fs', h1, h2, h3⟩ := t.wipe1 i
    refine ⟨fo, fs', .no h1, h2, fun s k fs2 h => ?_⟩
    cases h with
    | no h => obtain ⟨fs3, a, b⟩ := h3 s k _ h; exact ⟨fs3, .no a, b⟩
  | _, _, _, i + 1, .yes (f := f) w p t => by
    obtain ⟨fo, fs', h1, h2, h3⟩ := t.wipe1 i
    refine ⟨fo, f ++ fs', .yes w p h1, (h2.append_left f).trans (perm_sw f fo fs'), fun s k fs2 h => ?_⟩
    cases h with
    | yes w' p' h => obtain ⟨fs3, a, b⟩ := h3 s k _ h; exact ⟨_, .yes w' p' a, (b.append_left _).trans (perm_sw _ fo _)⟩
theorem REs.wipe {fs : List Nat} (r : REs st Γ env fs) : ∀ own : List Nat, ∃ fo fs', REs st (wipeG Γ own) (wipeE env own) fs' ∧ fs.Perm (fo ++ fs') ∧
    ∀ (s : Store), (∀ n ∈ fo, s[n]? = st[n]?) → ∀ fs2, REs s (wipeG Γ own) (wipeE env own) fs2 → ∃ fs3, REs s Γ env fs3 ∧ fs3.Perm (fo ++ fs2)
  | [] => ⟨[], fs, r, List.Perm.refl _, fun s _ fs2 h => ⟨fs2, h, List.Perm.refl _⟩⟩
  | v :: vs => by
    obtain ⟨fo, fs', h1, h2, h3⟩ := REs.wipe r vs
    obtain ⟨fo', fs'', k1, k2, k3⟩ := h1.wipe1 v
    refine ⟨fo ++ fo', fs'', k1, (h2.trans (k2.append_left fo)).trans (by rw [List.append_assoc]), fun s k fs2 h => ?_⟩
    obtain ⟨fs3, a, b⟩ := k3 s (fun n hn => k n (List.mem_append_right _ hn)) fs2 h
    obtain ⟨fs4, c, d⟩ := h3 s (fun n hn => k n (List.mem_append_left _ hn)) fs3 a
    exact ⟨fs4, c, (d.trans (b.append_left fo)).trans (by rw [List.append_assoc])⟩
theorem Rel.wipe {fr : List Nat} (r : Rel B Γ fr env st) (own : List Nat) : ∃ fo, Rel B (wipeG Γ own) (fo ++ fr) (wipeE env own) st ∧ ∀ (s : Store) (fr' : List Nat), (∀ n ∈ fo, s[n]? = st[n]?) → Rel B (wipeG Γ own) (fo ++ fr') (wipeE env own) s → Rel B Γ fr' env s := by
  obtain ⟨fs, h, k⟩ := r
  obtain ⟨fo, fs', h1, h2, h3⟩ := h.wipe own
  refine ⟨fo, ⟨fs', h1, k.perm ?_⟩, fun s fr' hk ⟨fs2, a, b⟩ => ?_⟩
  · exact ((h2.append_right fr).trans (by rw [List.append_assoc])).trans (perm_sw fo fs' fr)
  · obtain ⟨fs3, c, d⟩ := h3 s hk fs2 a
    refine ⟨fs3, c, b.perm ?_⟩
    exact (perm_sw fs2 fo fr').trans ((by rw [← List.append_assoc] : (fo ++ (fs2 ++ fr')).Perm ((fo ++ fs2) ++ fr')).trans (d.symm.append_right fr'))
theorem wipeG_none (Γ : Sl) : ∀ (own : List Nat) (i : Nat) (z : Option Nat × G), (wipeG Γ own)[i]? = some (some z) → i ∉ own
  | [], i, z, h => by simp
  | v :: vs, i, z, h => by
    have h' : ((wipeG Γ vs).set v none)[i]? = some (some z) := h
    by_cases hv : v = i
    · subst hv
      by_cases hl : v < (wipeG Γ vs).length
      · rw [List.getElem?_set_self hl] at h'; cases h'
      · rw [List.getElem?_eq_none (by simp; omega)] at h'; cases h'
    · rw [List.getElem?_set_ne hv] at h'
      have := wipeG_none Γ vs i z h'
      simp only [List.mem_cons, not_or]
      exact ⟨fun e => hv e.symm, this⟩
theorem REs.env_eq : ∀ {Γ : Sl} {env env' : Env} {fs : List Nat}, REs st Γ env fs → env'.length = env.length → (∀ (i : Nat) (z : Option Nat × G), Γ[i]? = some (some z) → env'[i]? = env[i]?) → REs st Γ env' fs
  | _, _, [], _, .nil, _, _ => .nil
  | _, _, [], _, .no _, h, _ => by simp at h
  | _, _, [], _, .yes _ _ _, h, _ => by simp at h
  | _, _, a :: e, _, .nil, h, _ => by simp at h
  | _, _, a :: e, _, .no t, h, k => .no (t.env_eq (by simpa using h) fun i z q => by simpa using k (i + 1) z (by simpa using q))
  | _, _, a :: e, _, .yes w p t, h, k => by
    have := k 0 _ rfl
    simp at this
    subst this
    exact .yes w p (t.env_eq (by simpa using h) fun i z q => by simpa using k (i + 1) z (by simpa using q))
theorem Rel.env_eq {fr : List Nat} {env' : Env} (r : Rel B Γ fr env st) (hl : env'.length = env.length) (h : ∀ (i : Nat) (z : Option Nat × G), Γ[i]? = some (some z) → env'[i]? = env[i]?) : Rel B Γ fr env' st := let ⟨fs, a, b⟩ := r; ⟨fs, a.env_eq hl h, b⟩
end
section
variable {B : List O → Prop} {Γ : Sl} {it : FI} {tg : FG} {tt : FB} {elt : FE} {α β τ : Type} {e : τ → PV}
theorem comp_eff {ok : Store → Prop} {Γx : τ → Sl} {Γ : Sl} {own : List Nat} {p : τ → W (Option β)} {v : β → G} {e0 : Env} (hok : ∀ fr st, Rel B (wipeG Γ own) fr e0 st → ok st) (ht : ∀ x, TG B (wipeG Γ own) tg (e x) (Γx x) own) (hw : ∀ x, Less (wipeG Γ own) (Γx x)) (hp : ∀ x, CE B (Γx x) tt elt (p x) v) :
    ∀ (xs : List τ) (st : Store) (fr : List Nat) (accg : List G) (acc : List D) (fa : List Nat) (Q : List β → Prop) (X : Xc → Prop), Rel B (wipeG Γ own) (fa ++ fr) e0 st → Owns st accg acc fa → acc.length + xs.length ≤ 1000000 → W.comL' p xs Q X →
      OutP (compL ok tg tt elt e0 (xs.map fun x => (e x).d) acc st) (fun r s => ∃ ys fv, Q ys ∧ ROwn s r (.lst (accg ++ ys.map v)) fv ∧ Rel B (wipeG Γ own) (fv ++ fr) e0 s ∧ Keep fr st s) (fun _ _ => False)
  | [], st, fr, accg, acc, fa, Q, X, r, w, hl, q => by
    show OutP (compL ok tg tt elt e0 [] acc st) _ _
    unfold compL
    rw [if_pos (hok _ _ r)]
    exact ⟨[], fa, q, by simpa using .o (.lst w), r, .refl⟩
  | x :: xs, st, fr, accg, acc, fa, Q, X, r, w, hl, q => by
    obtain ⟨e1, t1, t2, t3, t4⟩ := ht x _ e0 st r
    obtain ⟨b, st1, k1, k2⟩ := hp x _ e1 st _ X t2 q
    simp only [List.length_cons] at hl
    show OutP (compL ok tg tt elt e0 (_ :: _) acc st) _ _
    unfold compL
    rw [if_pos (hok _ _ r), t1]
    simp only [k1, Out.nox, Out.bind]
    have home : ∀ {fr' : List Nat} {s : Store}, Rel B (Γx x) fr' e1 s → Rel B (wipeG Γ own) fr' e0 s := fun {fr' s} z => (z.less (hw x)).env_eq t3.symm fun i y hy => (t4 i (wipeG_none Γ own i y hy)).symm
    cases b with
    | false =>
      obtain ⟨a1, a2, a3⟩ := k2
      simp only [Bool.false_eq_true, if_false]
      refine (comp_eff hok ht hw hp xs st1 fr accg acc fa _ X (home a2) (w.keep fun n hn => a3.get n (List.mem_append_left _ hn)) (by omega) a1).mono (fun rr s ⟨ys, fv, q1, q2, q3, q4⟩ => ?_) fun _ _ h => h
      exact ⟨ys, fv, q1, q2, q3, a3.right.trans q4⟩
    | true =>
      obtain ⟨y, r2, st2, fv, a1, a2, a3, a4, a5⟩ := k2
      simp only [a1, if_true]
      rw [if_pos (by omega)]
      have r4 : Rel B (Γx x) (fv ++ (fa ++ fr)) e1 st2 := a4
      obtain ⟨fv', w1, w2, w3⟩ := own_alloc a3 r4 (fun n hn => Nat.lt_of_lt_of_le (t2.lt n hn) a5.len)
      have w4 : Owns (alloc r2 st2).2 accg acc fa := (w.keep fun n hn => a5.get n (List.mem_append_left _ hn)).keep fun n hn => w3.get n (List.mem_append_left _ hn)
      have w5 : Owns (alloc r2 st2).2 (accg ++ [v y]) (acc ++ [(alloc r2 st2).1]) (fa ++ fv') := by
        have z := Owns.cons w1 Owns.nil
        rw [List.append_nil] at z
        exact w4.app z
      have r5 : Rel B (wipeG Γ own) ((fa ++ fv') ++ fr) e0 (alloc r2 st2).2 := (home w2).perm (by rw [List.append_assoc]; exact perm_sw fv' fa fr)
      refine (comp_eff hok ht hw hp xs _ fr _ _ _ _ X r5 w5 (by simp; omega) a2).mono (fun rr s ⟨ys, fv, q1, q2, q3, q4⟩ => ?_) fun _ _ h => h
      refine ⟨y :: ys, fv, q1, ?_, q3, (a5.right.trans w3.right).trans q4⟩
      simpa using q2
theorem we_comp {m : W (List τ)} {own : List Nat} {Γx : τ → Sl} {p : τ → W (Option β)} {v : β → G} (hi : WI B Γ it m (fun xs => xs) e (fun _ => Γ)) (ht : ∀ x, TG B (wipeG Γ own) tg (e x) (Γx x) own) (hw : ∀ x, Less (wipeG Γ own) (Γx x)) (hp : ∀ x, CE B (Γx x) tt elt (p x) v) :
    WE B Γ (fComp it tg tt elt own) (m.bind fun xs => W.comO p xs) (gL v) (fun _ => Γ) := fun fr env st Q X r q => by
  unfold fComp
  refine (hi fr env st _ X r q).bind (fun qq s ⟨xs, ⟨hl, h1⟩, h2, h3, h4, h5⟩ => ?_) fun _ _ h => h
  rw [h2]
  obtain ⟨fo, w1, w2⟩ := h4.wipe own
  refine (comp_eff (fun _ s _ => h3 s) ht hw hp xs s (fo ++ fr) [] [] [] Q X w1 .nil (by simpa using hl) h1).mono (fun rr s2 ⟨ys, fv, q1, q2, q3, q4⟩ => ?_) fun _ _ h => h.elim
  refine ⟨ys, fv, q1, by simpa using q2, w2 s2 (fv ++ fr) (fun n hn => q4.get n (List.mem_append_left _ hn)) (q3.perm (perm_sw fv fo fr)), h5.trans q4.right⟩
/-- through a name's list -/
theorem we_compV {k : Nat} {o : Option Nat} {xs : List τ} {own : List Nat} {Γx : Nat → τ → Sl} {p : τ → W (Option β)} {v : β → G} (hi : WIv it k) (hk : Γ[k]? = some (some (o, gL (gM e) xs))) (hko : k ∉ own) (ht : ∀ n x, TG B (wipeG (Γ.set k (pn n (gL (gM e) xs))) own) tg (e x) (Γx n x) own) (hw : ∀ n x, Less (wipeG (Γ.set k (pn n (gL (gM e) xs))) own) (Γx n x)) (hp : ∀ n x, CE B (Γx n x) tt elt (p x) v) :
    WE B Γ (fComp it tg tt elt own) (W.comO p xs) (gL v) (fun _ => Γ) := fun fr env st Q X r ⟨hl, q⟩ => by
  obtain ⟨n, ds, f, h1, h2, h3, h4, h5⟩ := r.pin hk
  obtain ⟨rfl, rfl⟩ := Owns.pv_inv h3
  unfold fComp
  rw [hi env st n _ h1 h2]
  simp only [Out.bind_ok]
  have hkl : k < Γ.length := (List.getElem?_eq_some_iff.mp hk).1
  have hwk : ∀ (own : List Nat) (Γ' : Sl), k ∉ own → (wipeG Γ' own)[k]? = Γ'[k]? := by
    intro own Γ' h
    induction own with
    | nil => rfl
    | cons v vs ih =>
      simp only [List.mem_cons, not_or] at h
      show ((wipeG Γ' vs).set v none)[k]? = _
      rw [List.getElem?_set_ne (fun e => h.1 e.symm), ih h.2]
  have hk1 : (wipeG (Γ.set k (pn n (gL (gM e) xs))) own)[k]? = some (pn n (gL (gM e) xs)) := by
    rw [hwk own _ hko]
    exact List.getElem?_set_self hkl
  obtain ⟨fo, w1, w2⟩ := h5.wipe own
  refine (comp_eff (e := e) (fun fr' s r' => ?_) (ht n) (hw n) (hp n) xs st (fo ++ fr) [] [] [] Q X w1 .nil (by simpa using hl) q).mono (fun rr s2 ⟨ys, fv, q1, q2, q3, q4⟩ => ?_) fun _ _ h => h.elim
  · obtain ⟨d, f', k1, k2, k3, _⟩ := r'.take hk1
    have hd := k3 n rfl
    subst hd
    obtain ⟨n', ds', f'', z1, z2, z3, _⟩ := k2.lst_inv
    cases z1
    obtain ⟨rfl, _⟩ := Owns.pv_inv z3
    exact z2
  · have r2 := w2 s2 (fv ++ fr) (fun n hn => q4.get n (List.mem_append_left _ hn)) (q3.perm (perm_sw fv fo fr))
    have r3 := r2.unpin (o := o) (List.getElem?_set_self hkl) h4
    rw [List.set_set, set_same hk] at r3
    exact ⟨ys, fv, q1, by simpa using q2, r3, q4.right⟩
end

/-! ### defs -/
inductive LessR : Sl → Sl → Prop
  | nil {Γ : Sl} : LessR [] Γ
  | no {a : Slot} {Γ Γ' : Sl} (t : LessR Γ Γ') : LessR (none :: Γ) (a :: Γ')
  | yes {a : Slot} {Γ Γ' : Sl} (t : LessR Γ Γ') : LessR (a :: Γ) (a :: Γ')
inductive Ob : G → Prop
  | lst (gs : List G) : Ob (.lst gs)
  | dk (kvs : List (Key × PV)) : Ob (.dk kvs)
  | dt (kvs : List (List Key × PV)) : Ob (.dt kvs)
  | sT (L : List (List Int)) : Ob (.sT L)
  | sI (L : List Int) : Ob (.sI L)
inductive Ends : List (Option Nat) → List G → List G → Sl → Prop
  | nil {Γ : Sl} : Ends [] [] [] Γ
  | flat0 {o : Option Nat} {os : List (Option Nat)} {g : G} {gs ps : List G} (f : Flat g) (t : Ends os gs ps []) : Ends (o :: os) (g :: gs) (g :: ps) []
  | flat {o : Option Nat} {os : List (Option Nat)} {g : G} {gs ps : List G} {a : Slot} {Γ : Sl} (f : Flat g) (t : Ends os gs ps Γ) : Ends (o :: os) (g :: gs) (g :: ps) (a :: Γ)
  | obj {o : Option Nat} {os : List (Option Nat)} {g p : G} {gs ps : List G} {Γ : Sl} (b : Ob g) (t : Ends os gs ps Γ) : Ends (o :: os) (g :: gs) (p :: ps) (some (o, p) :: Γ)
section
variable {B : List O → Prop} {st s : Store}
theorem REs.lessR : ∀ {Γ Γ' : Sl} {env : Env} {fs : List Nat}, LessR Γ Γ' → REs st Γ' env fs → ∃ e fs', REs st Γ e fs' ∧ fs'.Sublist fs
  | _, _, _, _, .nil, _ => ⟨[], [], .nil, List.nil_sublist _⟩
  | _, _, _, _, .no t, .no (x := x) r => let ⟨e, fs', h1, h2⟩ := r.lessR t; ⟨x :: e, fs', .no h1, h2⟩
  | _, _, _, _, .no t, .yes (d := d) _ _ r => let ⟨e, fs', h1, h2⟩ := r.lessR t; ⟨some d :: e, fs', .no h1, h2.trans (List.sublist_append_right _ _)⟩
  | _, _, _, _, .yes t, .no (x := x) r => let ⟨e, fs', h1, h2⟩ := r.lessR t; ⟨x :: e, fs', .no h1, h2⟩
  | _, _, _, _, .yes t, .yes h p r => let ⟨e, fs', h1, h2⟩ := r.lessR t; ⟨_, _, .yes h p h1, h2.append_left _⟩
theorem Rel.lessR {Γ Γ' : Sl} {fr : List Nat} {env : Env} (h : Rel B Γ' fr env st) (l : LessR Γ Γ') : ∃ e, Rel B Γ fr e st := by
  obtain ⟨fs, r, k⟩ := h
  obtain ⟨e, fs', r', s⟩ := r.lessR l
  exact ⟨e, fs', r', k.sub (s.append_right fr)⟩
theorem ws_retR {Γ : Sl} {f : FE} {α : Type} {m : W α} {v : α → G} {Γ' Γe : α → Sl} (h : WE B Γ f m v Γ') (l : ∀ a, LessR (Γe a) (Γ' a)) : WS B Γ (fRet f) m (fun a => .rt (v a) (Γe a)) := fun fr env st Q X r q => by
  unfold fRet
  refine thenS_P (h fr env st Q X r q) fun rr s ⟨a, fv, h1, h2, h3, h4⟩ => ?_
  obtain ⟨e, h5⟩ := h3.lessR (l a)
  exact ⟨a, _, _, fv, e, h1, rfl, h2, h5, h4⟩
theorem ws_retRN {Γ Γe : Sl} (l : LessR Γe Γ) : WS B Γ fRetN (W.pure ()) (fun _ => .rt (.im .non) Γe) := fun fr env st Q X r q => by
  obtain ⟨e, h5⟩ := r.lessR l
  exact ⟨(), _, _, [], e, q, rfl, .v (.im .non), h5, .refl⟩
def pinOf : D → Option Nat
  | .ref n => some n
  | _ => none
theorem pinOf_eq {d : D} {n : Nat} (h : pinOf d = some n) : d = .ref n := by
  cases d <;> simp [pinOf] at h
  rw [h]
theorem Own.ob {g : G} {d : D} {f : List Nat} (h : Own st g d f) (b : Ob g) : ∃ n, d = .ref n := by
  cases h with
  | im p => cases b
  | bag => cases b
  | obj h o => exact ⟨_, rfl⟩
  | tp o => cases b
theorem Own.flat_re {g : G} {d : D} {f : List Nat} (h : Own st g d f) (b : Flat g) : Own s g d [] := by
  cases b with
  | im p => obtain ⟨rfl, _⟩ := h.im_inv; exact .im p
  | bag => cases h with
    | bag => exact .bag
    | obj h o => cases o
abbrev slotsOf (os : List (Option Nat)) (gs : List G) : Sl := List.zipWith (fun o g => some (o, g)) os gs
theorem REs.args : ∀ {gs : List G} {ds : List D} {fs : List Nat} (n : Nat), Owns st gs ds fs → REs st (slotsOf (ds.map pinOf) gs ++ List.replicate n none) (ds.map some ++ List.replicate n none) fs
  | _, _, _, 0, .nil => .nil
  | _, _, _, n + 1, .nil => .no (REs.args n .nil)
  | _, _, _, n, .cons h t => .yes h (fun _ e => pinOf_eq e) (REs.args n t)
theorem ends_rel : ∀ {gs : List G} {ds : List D} {fs : List Nat} {ps : List G} {Γ : Sl} {e : Env} {fe : List Nat}, Ends (ds.map pinOf) gs ps Γ → Owns st gs ds fs → REs s Γ e fe → ∃ fs', REs s (ps.map sg) (ds.map some) fs' ∧ fs'.Sublist fe := by
  intro gs ds fs ps Γ e fe hE w r
  generalize ho : ds.map pinOf = os at hE
  induction hE generalizing ds fs e fe with
  | nil =>
    cases w
    exact ⟨[], .nil, List.nil_sublist _⟩
  | flat0 f t ih =>
    cases w with
    | cons w1 w2 =>
      cases r
      simp only [List.map_cons, List.cons.injEq] at ho
      obtain ⟨fs', a, b⟩ := ih w2 .nil ho.2
      exact ⟨_, .yes (f := []) (w1.flat_re f) (fun n e => nomatch e) a, by simpa using b⟩
  | flat f t ih =>
    cases w with
    | cons w1 w2 =>
      simp only [List.map_cons, List.cons.injEq] at ho
      cases r with
      | no r =>
        obtain ⟨fs', a, b⟩ := ih w2 r ho.2
        exact ⟨_, .yes (f := []) (w1.flat_re f) (fun n e => nomatch e) a, by simpa using b⟩
      | yes _ _ r =>
        obtain ⟨fs', a, b⟩ := ih w2 r ho.2
        exact ⟨_, .yes (f := []) (w1.flat_re f) (fun n e => nomatch e) a, by simpa using b.trans (List.sublist_append_right _ _)⟩
  | obj b t ih =>
    cases w with
    | cons w1 w2 =>
      simp only [List.map_cons, List.cons.injEq] at ho
      cases r with
      | yes h p r =>
        obtain ⟨n, rfl⟩ := w1.ob b
        have := p n (by rw [← ho.1]; rfl)
        subst this
        obtain ⟨fs', a, b⟩ := ih w2 r ho.2
        exact ⟨_, .yes h (fun n e => nomatch e) a, b.append_left _⟩
theorem owns_of_REs : ∀ {ps : List G} {ds : List D} {fs : List Nat}, REs s (ps.map sg) (ds.map some) fs → Owns s ps ds fs
  | [], [], _, .nil => .nil
  | [], _ :: _, _, h => by cases h
  | _ :: _, [], _, h => by cases h
  | p :: ps, d :: ds, _, .yes h _ t => .cons h (owns_of_REs t)
/-- a def from what its text does -/
theorem wf_of {n : Nat} {body : FS} {gs : List G} {ε : Type} {m : W ε} {v : ε → G} {post : ε → List G} (h : ∀ os : List (Option Nat), os.length = gs.length → ∃ (J : ε → Fin) (Γe : ε → Sl), WS B (slotsOf os gs ++ List.replicate (n - gs.length) none) body m J ∧
    (∀ a, J a = .rt (v a) (Γe a) ∨ (v a = .im .non ∧ ∃ Γ, J a = .nx Γ ∧ LessR (Γe a) Γ)) ∧ ∀ a, Ends os gs (post a) (Γe a)) : WF B (mkF n body) gs m v post := fun fr ds st fs Q X w k q => by
  obtain ⟨J, Γe, hw, hJ, hE⟩ := h (ds.map pinOf) (by rw [List.length_map]; exact w.length.symm)
  have hlen := w.length
  have r0 : Rel B (slotsOf (ds.map pinOf) gs ++ List.replicate (n - gs.length) none) fr (ds.map some ++ List.replicate (n - ds.length) none) st := ⟨fs, by rw [hlen]; exact REs.args _ w, k⟩
  have hs := hw fr _ st Q X r0 q
  have bl : Bls st.length ds := (w.lt k.two).1
  have main : OutP (mkF n body ds st) (fun r s => ∃ a fv, Q a ∧ ROwn s r (v a) fv ∧ Rel B ((post a).map sg) (fv ++ fr) (ds.map some) s ∧ Keep fr st s) (XP B X fr st) := by
    unfold mkF
    refine gc_rel (Γ := (gs.map sg)) k.right (fun a i d _ he => ?_) ?_
    · rw [List.getElem?_map] at he
      cases z : ds[i]? with
      | none => rw [z] at he; cases he
      | some d' =>
        rw [z] at he
        cases he
        exact bl.mem _ (List.mem_of_getElem? z)
    · generalize body _ st = o at hs
      have fin : ∀ {a : ε} {fv : List Nat} {e : Env} {s : Store}, Rel B (Γe a) (fv ++ fr) e s → Rel B ((post a).map sg) (fv ++ fr) (ds.map some) s := fun {a fv e s} ⟨fe, r1, k1⟩ => by
        obtain ⟨fs', a1, a2⟩ := ends_rel (hE a) w r1
        exact ⟨fs', a1, k1.sub (a2.append_right _)⟩
      cases o with
      | next e s =>
        obtain ⟨a, Γ1, h1, h2, h3, h4⟩ := hs
        rcases hJ a with z | ⟨z1, Γ2, z2, z3⟩
        · rw [h2] at z; cases z
        · rw [h2] at z2; cases z2
          obtain ⟨e', r'⟩ := h3.lessR z3
          exact ⟨a, [], h1, by rw [z1]; exact .v (.im .non), fin (fv := []) r', h4⟩
      | ret r s =>
        obtain ⟨a, g, Γ1, fv, e, h1, h2, h3, h4, h5⟩ := hs
        rcases hJ a with z | ⟨z1, Γ2, z2, z3⟩
        · rw [h2] at z; cases z; exact ⟨a, fv, h1, h3, fin h4, h5⟩
        · rw [h2] at z2; cases z2
      | brk e s =>
        obtain ⟨a, Γ1, h1, h2, h3, h4⟩ := hs
        rcases hJ a with z | ⟨z1, Γ2, z2, z3⟩
        · rw [h2] at z; cases z
        · rw [h2] at z2; cases z2
      | cont e s =>
        obtain ⟨a, Γ1, h1, h2, h3, h4⟩ := hs
        rcases hJ a with z | ⟨z1, Γ2, z2, z3⟩
        · rw [h2] at z; cases z
        · rw [h2] at z2; cases z2
      | exc x e s => exact hs
      | stuck => exact hs
  refine main.mono (fun r s ⟨a, fv, h1, h2, ⟨fs', r', k'⟩, h4⟩ => ?_) fun _ _ h => h
  exact ⟨a, fv, fs', h1, h2, owns_of_REs r', k'.perm (perm_sw fs' fv fr), h4⟩
theorem ends_flat : ∀ {os : List (Option Nat)} {gs : List G}, os.length = gs.length → (∀ g ∈ gs, Flat g) → Ends os gs gs []
  | [], [], _, _ => .nil
  | [], _ :: _, h, _ => by simp at h
  | _ :: _, [], h, _ => by simp at h
  | o :: os, g :: gs, h, f => .flat0 (f g (by simp)) (ends_flat (by simpa using h) fun g hg => f g (List.mem_cons_of_mem _ hg))
end
end Fx

set_option Elab.async false
set_option linter.all false
set_option maxRecDepth 100000
set_option maxHeartbeats 4000000
set_option autoImplicit false
/-! Fx, part Zb: shapes of values, operations on them. -/
namespace Fx
open PySem PySem.Spec PyProof.Rows L2
variable [BagAt]

mutual
def PV.pd : PV → PyData
  | .non => .none
  | .bl b => .bool b
  | .int i => .int i
  | .str x => .str x
  | .tup xs => .tuple (PV.pds xs)
def PV.pds : List PV → List PyData
  | [] => []
  | p :: ps => p.pd :: PV.pds ps
end
mutual
def PV.sok : PV → Bool
  | .non => true
  | .bl _ => true
  | .int _ => true
  | .str x => PyData.strOk x
  | .tup xs => PV.soks xs
def PV.soks : List PV → Bool
  | [] => true
  | p :: ps => p.sok && PV.soks ps
end
mutual
def PV.dep : PV → Nat
  | .non => 1
  | .bl _ => 1
  | .int _ => 1
  | .str _ => 1
  | .tup xs => PV.deps xs + 1
def PV.deps : List PV → Nat
  | [] => 0
  | p :: ps => max p.dep (PV.deps ps)
end
theorem PV.pds_map : ∀ ps : List PV, PV.pds ps = ps.map PV.pd
  | [] => rfl
  | p :: ps => by rw [PV.pds, PV.pds_map ps]; rfl
mutual
theorem PV.toP {st : Store} : ∀ (p : PV) (n : Nat), p.sok = true → p.dep ≤ n → D.toP st n p.d = some p.pd
  | .non, 0, _, h => by simp [PV.dep] at h
  | .bl b, 0, _, h => by simp [PV.dep] at h
  | .int i, 0, _, h => by simp [PV.dep] at h
  | .str x, 0, _, h => by simp [PV.dep] at h
  | .tup xs, 0, _, h => by simp [PV.dep] at h
  | .non, n + 1, _, _ => rfl
  | .bl b, n + 1, _, _ => rfl
  | .int i, n + 1, _, _ => rfl
  | .str x, n + 1, h, _ => by
    have h' : PyData.strOk x = true := h
    show D.toP st (n + 1) (.str x) = _
    rw [D.toP, if_pos h']; rfl
  | .tup xs, n + 1, h, k => by
    show D.toP st (n + 1) (.tup (PV.ds xs)) = _
    rw [D.toP, PV.toPs xs n h (by simp only [PV.dep] at k; omega)]; rfl
theorem PV.toPs {st : Store} : ∀ (ps : List PV) (n : Nat), PV.soks ps = true → PV.deps ps ≤ n → (PV.ds ps).mapM (D.toP st n) = some (PV.pds ps)
  | [], n, _, _ => rfl
  | p :: ps, n, h, k => by
    simp only [PV.soks, Bool.and_eq_true] at h
    simp only [PV.deps] at k
    rw [PV.ds, List.mapM_cons, PV.toP p n h.1 (by omega), PV.toPs ps n h.2 (by omega)]
    rfl
end

/-! ### shapes -/
abbrev eI : Int → PV := PV.int
abbrev eB : Bool → PV := PV.bl
abbrev eX : PV → PV := fun p => p
abbrev eSt : Str → PV := PV.str
abbrev eU : Unit → PV := fun _ => .non
section
variable {α β γ δ : Type}
abbrev eP (ea : α → PV) (eb : β → PV) : α × β → PV := fun p => .tup [ea p.1, eb p.2]
/-- three and four in a tuple -/
structure T3 (α β γ : Type) where
  a : α
  b : β
  c : γ
  deriving DecidableEq
structure T4 (α β γ δ : Type) where
  a : α
  b : β
  c : γ
  d : δ
  deriving DecidableEq
abbrev eT3 (ea : α → PV) (eb : β → PV) (ec : γ → PV) : T3 α β γ → PV := fun p => .tup [ea p.a, eb p.b, ec p.c]
abbrev eT4 (ea : α → PV) (eb : β → PV) (ec : γ → PV) (ed : δ → PV) : T4 α β γ δ → PV := fun p => .tup [ea p.a, eb p.b, ec p.c, ed p.d]
def eO (ea : α → PV) : Option α → PV
  | none => .non
  | some a => ea a
@[simp] theorem eO_none (ea : α → PV) : eO ea none = .non := rfl
@[simp] theorem eO_some (ea : α → PV) (a : α) : eO ea (some a) = ea a := rfl
def kInt (k : Int) : Key := .inl k
def kPair (k : Int × Int) : List Key := [.inl k.1, .inl k.2]
abbrev gK (e : α → PV) : List (Int × α) → G := fun kvs => .dk (kvs.map fun kv => (kInt kv.1, e kv.2))
abbrev gK2 (e : α → PV) : List ((Int × Int) × α) → G := fun kvs => .dt (kvs.map fun kv => (kPair kv.1, e kv.2))
def pL (k : Int × Int) : List Int := [k.1, k.2]
abbrev gS2 : List (Int × Int) → G := fun L => .sT (L.map pL)
end

/-- values whose likeness is their equality -/
structure EqE {α : Type} [DecidableEq α] (e : α → PV) (n : Nat) : Prop where
  ok : ∀ a, (e a).sok = true ∧ (e a).dep ≤ n
  eq : ∀ a b, PyData.eqv (e a).pd (e b).pd = decide (a = b)
structure NnE {α : Type} (e : α → PV) : Prop where
  nn : ∀ a, e a ≠ .non
section
variable {α β γ δ : Type} [DecidableEq α] [DecidableEq β] [DecidableEq γ] [DecidableEq δ] {ea : α → PV} {eb : β → PV} {ec : γ → PV} {ed : δ → PV} {n m k l : Nat}
theorem nnI : NnE eI := ⟨fun a h => by cases h⟩
theorem nnB : NnE eB := ⟨fun a h => by cases h⟩
theorem nnSt : NnE eSt := ⟨fun a h => by cases h⟩
theorem nnP : NnE (eP ea eb) := ⟨fun a h => by cases h⟩
theorem nnS : NnE (eS ea) := ⟨fun a h => by cases h⟩
theorem eqI : EqE eI 1 := ⟨fun a => ⟨rfl, Nat.le_refl _⟩, fun a b => by
  show PyData.eqv (.int a) (.int b) = _
  simp only [PyData.eqv]
  by_cases h : a = b <;> simp [h]⟩
theorem eqB : EqE eB 1 := ⟨fun a => ⟨rfl, Nat.le_refl _⟩, fun a b => by
  show PyData.eqv (.bool a) (.bool b) = _
  simp only [PyData.eqv]
  by_cases h : a = b <;> simp [h]⟩
theorem eqP (ha : EqE ea n) (hb : EqE eb m) : EqE (eP ea eb) (max n m + 1) := ⟨fun p => by
  obtain ⟨a1, a2⟩ := ha.ok p.1
  obtain ⟨b1, b2⟩ := hb.ok p.2
  refine ⟨?_, ?_⟩
  · show ((ea p.1).sok && ((eb p.2).sok && true)) = true
    rw [a1, b1]; rfl
  · show max (ea p.1).dep (max (eb p.2).dep 0) + 1 ≤ _
    omega, fun p q => by
  show PyData.eqv (.tuple [(ea p.1).pd, (eb p.2).pd]) (.tuple [(ea q.1).pd, (eb q.2).pd]) = _
  simp only [PyData.eqv, PyData.eqvAll, ha.eq, hb.eq, Bool.and_true, ← Bool.decide_and]
  exact decide_eq_decide.mpr ⟨fun h => Prod.ext h.1 h.2, fun h => by rw [h]; exact ⟨rfl, rfl⟩⟩⟩
theorem eqT3 (ha : EqE ea n) (hb : EqE eb m) (hc : EqE ec k) : EqE (eT3 ea eb ec) (max (max n m) k + 1) := ⟨fun p => by
  obtain ⟨a1, a2⟩ := ha.ok p.a
  obtain ⟨b1, b2⟩ := hb.ok p.b
  obtain ⟨c1, c2⟩ := hc.ok p.c
  refine ⟨?_, ?_⟩
  · show ((ea p.a).sok && ((eb p.b).sok && ((ec p.c).sok && true))) = true
    rw [a1, b1, c1]; rfl
  · show max (ea p.a).dep (max (eb p.b).dep (max (ec p.c).dep 0)) + 1 ≤ _
    omega, fun p q => by
  show PyData.eqv (.tuple [(ea p.a).pd, (eb p.b).pd, (ec p.c).pd]) (.tuple [(ea q.a).pd, (eb q.b).pd, (ec q.c).pd]) = _
  simp only [PyData.eqv, PyData.eqvAll, ha.eq, hb.eq, hc.eq, Bool.and_true, ← Bool.decide_and]
  refine decide_eq_decide.mpr ⟨fun h => ?_, fun h => by rw [h]; exact ⟨rfl, rfl, rfl⟩⟩
  cases p; cases q; obtain ⟨rfl, rfl, rfl⟩ := h; rfl⟩
theorem soks_map (ha : EqE ea n) : ∀ xs : List α, PV.soks (xs.map ea) = true
  | [] => rfl
  | x :: xs => by rw [List.map_cons, PV.soks, (ha.ok x).1, soks_map ha xs]; rfl
theorem deps_map (ha : EqE ea n) : ∀ xs : List α, PV.deps (xs.map ea) ≤ n
  | [] => Nat.zero_le _
  | x :: xs => by
    have := (ha.ok x).2
    have := deps_map ha xs
    rw [List.map_cons, PV.deps]; omega
theorem eqAll (ha : EqE ea n) : ∀ xs ys : List α, PyData.eqvAll ((xs.map ea).map PV.pd) ((ys.map ea).map PV.pd) = decide (xs = ys)
  | [], [] => by simp [PyData.eqvAll]
  | [], y :: ys => by simp [PyData.eqvAll]
  | x :: xs, [] => by simp [PyData.eqvAll]
  | x :: xs, y :: ys => by
    simp only [List.map_cons, PyData.eqvAll, ha.eq, eqAll ha xs ys, ← Bool.decide_and]
    exact decide_eq_decide.mpr ⟨fun h => by rw [h.1, h.2], fun h => by simpa using h⟩
theorem eqS (ha : EqE ea n) : EqE (eS ea) (n + 1) := ⟨fun xs => by
  refine ⟨soks_map ha xs, ?_⟩
  show PV.deps _ + 1 ≤ _
  have := deps_map ha xs; omega, fun xs ys => by
  show PyData.eqv (.tuple (PV.pds _)) (.tuple (PV.pds _)) = _
  simp only [PyData.eqv, PV.pds_map]
  exact eqAll ha xs ys⟩
theorem eqO (ha : EqE ea n) (hn : NnE ea) : EqE (eO ea) (n + 1) := ⟨fun o => by
  cases o with
  | none => exact ⟨rfl, Nat.succ_le_succ (Nat.zero_le _)⟩
  | some a => have := ha.ok a; exact ⟨this.1, Nat.le_succ_of_le this.2⟩, fun x y => by
  have key : ∀ a, PyData.eqv .none (ea a).pd = false ∧ PyData.eqv (ea a).pd .none = false := fun a => by
    have := hn.nn a
    cases h : ea a with
    | non => exact absurd h this
    | bl b => simp [PV.pd, PyData.eqv]
    | int i => simp [PV.pd, PyData.eqv]
    | str x => simp [PV.pd, PyData.eqv]
    | tup xs => simp [PV.pd, PyData.eqv]
  cases x with
  | none =>
    cases y with
    | none => simp [eO, PV.pd, PyData.eqv]
    | some b => simp only [eO, PV.pd, (key b).1]; simp
  | some a =>
    cases y with
    | none => simp only [eO, PV.pd, (key a).2]; simp
    | some b => simp only [eO, ha.eq]; simp⟩
end

/-! ### what is just there -/
def WVs (Γ : Sl) (g : FA) (ps : List PV) : Prop := ∀ env st, RdS Γ env st → g env st = .ok (PV.ds ps) st
section
variable {Γ : Sl} {f fa fb fc : FE} {g : FA} {p q : PV} {ps : List PV} {i j : Int} {α β : Type} [DecidableEq α] {e : α → PV} {c : FB} {x : Bool}
theorem wvs_nil : WVs Γ fNil [] := fun _ _ _ => rfl
theorem wvs_cons (h : WV Γ f p) (t : WVs Γ g ps) : WVs Γ (fCons f g) (p :: ps) := fun env st r => ev_consV (h env st r) (t env st r)
theorem wv_tup (h : WVs Γ g ps) (hl : ps.length ≤ 1000000 := by decide) : WV Γ (fTup g) (.tup ps) := fun env st r => by
  rw [ev_tup (h env st r) (by rw [PV.ds_map]; simpa using hl)]; rfl
theorem wv_add (ha : WV Γ fa (.int i)) (hb : WV Γ fb (.int j)) : WV Γ (fBin gAdd fa fb) (.int (i + j)) := fun env st r => by
  rw [ev_bin (ha env st r) (hb env st r)]; rfl
theorem wv_sub (ha : WV Γ fa (.int i)) (hb : WV Γ fb (.int j)) : WV Γ (fBin gSub fa fb) (.int (i - j)) := fun env st r => by
  rw [ev_bin (ha env st r) (hb env st r)]; rfl
theorem wv_mulR (ha : WV Γ fa (.int i)) (hb : WV Γ fb (.int j)) (h : j.natAbs < 1000000000000000000 := by decide) : WV Γ (fBin gMul fa fb) (.int (i * j)) := fun env st r => by
  rw [ev_bin (ha env st r) (hb env st r)]
  show (if _ then _ else _) = _
  rw [if_pos (Or.inr h)]; rfl
theorem wv_mulL (ha : WV Γ fa (.int i)) (hb : WV Γ fb (.int j)) (h : i.natAbs < 1000000000000000000 := by decide) : WV Γ (fBin gMul fa fb) (.int (i * j)) := fun env st r => by
  rw [ev_bin (ha env st r) (hb env st r)]
  show (if _ then _ else _) = _
  rw [if_pos (Or.inl h)]; rfl
theorem wv_lt (ha : WV Γ fa (.int i)) (hb : WV Γ fb (.int j)) : WV Γ (fBin gLt fa fb) (.bl (decide (i < j))) := fun env st r => by
  rw [ev_bin (ha env st r) (hb env st r)]; rfl
theorem wv_le (ha : WV Γ fa (.int i)) (hb : WV Γ fb (.int j)) : WV Γ (fBin gLe fa fb) (.bl (decide (i ≤ j))) := fun env st r => by
  rw [ev_bin (ha env st r) (hb env st r)]; rfl
theorem wv_gt (ha : WV Γ fa (.int i)) (hb : WV Γ fb (.int j)) : WV Γ (fBin gGt fa fb) (.bl (decide (j < i))) := fun env st r => by
  rw [ev_bin (ha env st r) (hb env st r)]; rfl
theorem wv_ge (ha : WV Γ fa (.int i)) (hb : WV Γ fb (.int j)) : WV Γ (fBin gGe fa fb) (.bl (decide (j ≤ i))) := fun env st r => by
  rw [ev_bin (ha env st r) (hb env st r)]; rfl
/-- a chain of two comparisons -/
theorem wv_chain {g1 g2 : F2} {x y : Bool} {p q s : PV} (ha : WV Γ fa p) (hb : WV Γ fb q) (hc : WV Γ fc s) (h1 : ∀ st, g1 (.v p.d) (.v q.d) st = .ok (.v (.bl x)) st) (h2 : ∀ st, g2 (.v q.d) (.v s.d) st = .ok (.v (.bl y)) st) : WV Γ (fChain g1 g2 fa fb fc) (.bl (x && y)) := fun env st r => by
  unfold fChain
  rw [ha env st r]
  simp only [Out.bind_ok]
  rw [hb env st r]
  simp only [Out.bind_ok, h1]
  cases x with
  | false => rfl
  | true =>
    simp only
    rw [hc env st r]
    simp only [Out.bind_ok, h2]; rfl
theorem wv_neg (ha : WV Γ fa (.int i)) : WV Γ (fNeg fa) (.int (-i)) := fun env st r => by unfold fNeg; rw [ha env st r]; rfl
theorem wv_notV (ha : WV Γ fa (.bl x)) : WV Γ (fNotV fa) (.bl (!x)) := fun env st r => by unfold fNotV; rw [ha env st r]; rfl
theorem wv_andV {y : Bool} (ha : WV Γ fa (.bl x)) (hb : WV Γ fb (.bl y)) : WV Γ (fAndV fa fb) (.bl (x && y)) := fun env st r => by
  unfold fAndV
  rw [ha env st r]
  cases x with
  | false => rfl
  | true => exact hb env st r
theorem wv_orV {y : Bool} (ha : WV Γ fa (.bl x)) (hb : WV Γ fb (.bl y)) : WV Γ (fOrV fa fb) (.bl (x || y)) := fun env st r => by
  unfold fOrV
  rw [ha env st r]
  cases x with
  | true => rfl
  | false => exact hb env st r
theorem wv_if {e : β → PV} {a b : β} (hc : WB Γ c x) (ha : WV Γ fa (e a)) (hb : WV Γ fb (e b)) : WV Γ (fIf c fa fb) (e (if x = true then a else b)) := fun env st r => by
  unfold fIf
  rw [hc env st r]
  cases x with
  | true => exact ha env st r
  | false => exact hb env st r
theorem wv_ix {n : Nat} (h : WV Γ f (.tup ps)) (hn : ps[n]? = some p) : WV Γ (fBin gIx f (fC (.int (n : Nat)))) p := fun env st r => by
  refine (ev_bin (h env st r) rfl).trans (ix_tup ?_)
  rw [PV.ds_map, List.getElem?_map, hn]; rfl
theorem wv_eq {m : Nat} {a b : α} (he : EqE e m) (ha : WV Γ fa (e a)) (hb : WV Γ fb (e b)) (hm : m ≤ 60 := by decide) : WV Γ (fBin gEq fa fb) (.bl (decide (a = b))) := fun env st r => by
  rw [ev_bin (ha env st r) (hb env st r)]
  obtain ⟨a1, a2⟩ := he.ok a
  obtain ⟨b1, b2⟩ := he.ok b
  have e1 : R.toP st 60 (.v (e a).d) = some (e a).pd := PV.toP _ 60 a1 (by omega)
  have e2 : R.toP st 60 (.v (e b).d) = some (e b).pd := PV.toP _ 60 b1 (by omega)
  unfold gEq
  simp only [e1, e2, he.eq]; rfl
theorem wv_ne {m : Nat} {a b : α} (he : EqE e m) (ha : WV Γ fa (e a)) (hb : WV Γ fb (e b)) (hm : m ≤ 60 := by decide) : WV Γ (fBin gNe fa fb) (.bl (!decide (a = b))) := fun env st r => by
  rw [ev_bin (ha env st r) (hb env st r)]
  obtain ⟨a1, a2⟩ := he.ok a
  obtain ⟨b1, b2⟩ := he.ok b
  have e1 : R.toP st 60 (.v (e a).d) = some (e a).pd := PV.toP _ 60 a1 (by omega)
  have e2 : R.toP st 60 (.v (e b).d) = some (e b).pd := PV.toP _ 60 b1 (by omega)
  unfold gNe
  simp only [e1, e2, he.eq]; rfl
theorem any_eqv {m : Nat} (he : EqE e m) (a : α) : ∀ xs : List α, ((xs.map e).map PV.pd).any (fun z => PyData.eqv z (e a).pd) = decide (a ∈ xs)
  | [] => by simp
  | x :: xs => by
    rw [List.map_cons, List.map_cons, List.any_cons, any_eqv he a xs, he.eq]
    by_cases h : a = x
    · subst h; simp
    · simp [h, Ne.symm h]
theorem in_tup {st : Store} {m : Nat} {a : α} {xs : List α} (he : EqE e m) (hm : m ≤ 59) : inP st (.v (e a).d) (.v (.tup ((xs.map e).map PV.d))) = some (decide (a ∈ xs)) := by
  obtain ⟨a1, a2⟩ := he.ok a
  have e1 : R.toP st 60 (.v (e a).d) = some (e a).pd := PV.toP _ 60 a1 (by omega)
  have e2 : ((xs.map e).map PV.d).mapM (D.toP st 60) = some ((xs.map e).map PV.pd) := by
    have := PV.toPs (st := st) (xs.map e) 60 (soks_map he xs) (Nat.le_trans (deps_map he xs) (by omega))
    rwa [PV.ds_map, PV.pds_map] at this
  cases h : (e a).d with
  | str y => simp only [inP, itemsP, e2, ← h, e1, Option.map_some, any_eqv he]
  | _ => simp only [inP, itemsP, e2, ← h, e1, Option.map_some, any_eqv he]
theorem wv_in {m : Nat} {a : α} {xs : List α} (he : EqE e m) (ha : WV Γ fa (e a)) (hb : WV Γ fb (eS e xs)) (hm : m ≤ 59 := by decide) : WV Γ (fBin gIn fa fb) (.bl (decide (a ∈ xs))) := fun env st r => by
  rw [ev_bin (ha env st r) (hb env st r)]
  have : (eS e xs).d = .tup ((xs.map e).map PV.d) := by show PV.d (.tup _) = _; rw [PV.d, PV.ds_map]
  unfold gIn
  rw [this, in_tup he hm]; rfl
theorem wv_notIn {m : Nat} {a : α} {xs : List α} (he : EqE e m) (ha : WV Γ fa (e a)) (hb : WV Γ fb (eS e xs)) (hm : m ≤ 59 := by decide) : WV Γ (fBin gNotIn fa fb) (.bl (!decide (a ∈ xs))) := fun env st r => by
  rw [ev_bin (ha env st r) (hb env st r)]
  have : (eS e xs).d = .tup ((xs.map e).map PV.d) := by show PV.d (.tup _) = _; rw [PV.d, PV.ds_map]
  unfold gNotIn
  rw [this, in_tup he hm]; rfl
theorem wv_lenS {e : β → PV} {xs : List β} (h : WV Γ f (eS e xs)) : WV Γ (fCall1 gLen f) (.int (xs.length : Int)) := fun env st r => by
  rw [ev_call1 (h env st r)]
  have : (eS e xs).d = .tup ((xs.map e).map PV.d) := by show PV.d (.tup _) = _; rw [PV.d, PV.ds_map]
  rw [this]
  simp [gLen, PV.d]
theorem wv_int' (h : WV Γ f (.int i)) : WV Γ (fCall1 gInt f) (.int i) := fun env st r => by rw [ev_call1 (h env st r)]; rfl
theorem wv_intB (h : WV Γ f (.bl x)) : WV Γ (fCall1 gInt f) (.int (if x = true then 1 else 0)) := fun env st r => by rw [ev_call1 (h env st r)]; rfl
theorem wv_abs (h : WV Γ f (.int i)) : WV Γ (fCall1 gAbs f) (.int (if i < 0 then -i else i)) := fun env st r => by rw [ev_call1 (h env st r)]; rfl
def cutL (xs : List β) (lo hi : Option Int) : List β := (xs.drop (HT.sIx xs.length 0 lo)).take (HT.sIx xs.length xs.length hi - HT.sIx xs.length 0 lo)
theorem cutD_map (fd : β → D) (xs : List β) (lo hi : Option Int) : cutD (xs.map fd) lo hi = (cutL xs lo hi).map fd := by
  unfold cutD cutL
  rw [List.length_map, List.map_take, List.map_drop]
def WVo (Γ : Sl) (f : FO) (o : Option Int) : Prop := ∀ env st, RdS Γ env st → f env st = .ok o st
theorem wvo_no : WVo Γ fNo none := fun _ _ _ => rfl
theorem wvo_some (h : WV Γ f (.int i)) : WVo Γ (fPart f) (some i) := fun env st r => by unfold fPart; rw [h env st r]; rfl
theorem wv_slS {e : β → PV} {xs : List β} {lo hi : FO} {l u : Option Int} (h : WV Γ f (eS e xs)) (hl : WVo Γ lo l) (hu : WVo Γ hi u) : WV Γ (fSl f lo hi) (eS e (cutL xs l u)) := fun env st r => by
  unfold fSl
  rw [h env st r]; simp only [Out.bind_ok]
  rw [hl env st r]; simp only [Out.bind_ok]
  rw [hu env st r]; simp only [Out.bind_ok]
  rw [eS_d, eS_d]
  show Out.ok (R.v (.tup (cutD _ _ _))) st = _
  rw [cutD_map]
theorem wp_slL {e : β → PV} {m : W (List β)} {lo hi : FO} {l u : Option Int} (h : WP Γ f m (gL (gM e))) (hl : WVo Γ lo l) (hu : WVo Γ hi u) : WP Γ (fSl f lo hi) (m.bind fun xs => W.pure (cutL xs l u)) (gL (gM e)) := fun env st Q X r q => by
  obtain ⟨xs, rr, fv, h1, h2, h3⟩ := h env st _ X r q
  refine ⟨_, .o (.lst ((cutL xs l u).map fun x => (e x).d)), [], h1, ?_, .o (.lst (Owns.pv e _))⟩
  unfold fSl
  rw [h2]; simp only [Out.bind_ok]
  rw [hl env st r]; simp only [Out.bind_ok]
  rw [hu env st r]; simp only [Out.bind_ok]
  cases h3 with
  | v h3 =>
    obtain ⟨n, ds, f', rfl, k1, k2, rfl⟩ := h3.lst_inv
    obtain ⟨rfl, _⟩ := Owns.pv_inv k2
    simp only [slc, seqL_ref k1, cutD_map]
  | o h3 =>
    cases h3 with
    | lst h3 =>
      obtain ⟨rfl, _⟩ := Owns.pv_inv h3
      simp only [slc, seqL, cutD_map]
theorem wv_isN {e : β → PV} {o : Option β} (hn : NnE e) (h : WV Γ f (eO e o)) : WV Γ (fBin gIsN f (fC .non)) (.bl o.isNone) := fun env st r => by
  rw [ev_bin (h env st r) rfl]
  cases o with
  | none => rfl
  | some a =>
    have := hn.nn a
    show gIsN (.v (e a).d) _ _ = _
    cases z : e a with
    | non => exact absurd z this
    | _ => rfl
theorem wv_notN {e : β → PV} {o : Option β} (hn : NnE e) (h : WV Γ f (eO e o)) : WV Γ (fBin gNotN f (fC .non)) (.bl o.isSome) := fun env st r => by
  rw [ev_bin (h env st r) rfl]
  cases o with
  | none => rfl
  | some a =>
    have := hn.nn a
    show gNotN (.v (e a).d) _ _ = _
    cases z : e a with
    | non => exact absurd z this
    | _ => rfl
def PV.isN : PV → Bool
  | .non => true
  | _ => false
theorem wv_isNX (h : WV Γ f p) : WV Γ (fBin gIsN f (fC .non)) (.bl p.isN) := fun env st r => by
  rw [ev_bin (h env st r) rfl]; cases p <;> rfl
theorem wv_notNX (h : WV Γ f p) : WV Γ (fBin gNotN f (fC .non)) (.bl (!p.isN)) := fun env st r => by
  rw [ev_bin (h env st r) rfl]; cases p <;> rfl
end

/-! ### what may be -/
section
variable {Γ : Sl} {α β : Type} [DecidableEq α] {e : α → PV} {eb : β → PV} {v : β → G} {st : Store}
theorem gL_seqL {xs : List β} {r : R} {f : List Nat} (h : ROwn st r (gL v xs) f) : ∃ ds f', seqL st r = some ds ∧ seqM st r = some ds ∧ objOf st r = some (.lst ds) ∧ Owns st (xs.map v) ds f' := by
  cases h with
  | v h =>
    obtain ⟨n, ds, f', rfl, k1, k2, rfl⟩ := h.lst_inv
    exact ⟨ds, f', seqL_ref k1, by simp [seqM, k1], by simp [objOf, k1], k2⟩
  | o h =>
    cases h with
    | lst h => exact ⟨_, f, rfl, rfl, rfl, h⟩
theorem gL_pv {xs : List β} {r : R} {f : List Nat} (h : ROwn st r (gL (gM eb) xs) f) : seqL st r = some (xs.map fun x => (eb x).d) ∧ seqM st r = some (xs.map fun x => (eb x).d) ∧ objOf st r = some (.lst (xs.map fun x => (eb x).d)) ∧ (∀ ds : List D, r ≠ .v (.tup ds)) ∧ (∀ s : Str, r ≠ .v (.str s)) ∧ ∀ s : Int, r ≠ .v (.int s) := by
  obtain ⟨ds, f', h1, h2, h3, h4⟩ := gL_seqL h
  obtain ⟨rfl, _⟩ := Owns.pv_inv h4
  exact ⟨h1, h2, h3, fun ds e => (by rw [e] at h1; cases h1), fun s e => (by rw [e] at h1; cases h1), fun s e => (by rw [e] at h1; cases h1)⟩
theorem gL_cases {xs : List β} {r : R} {f : List Nat} (h : ROwn st r (gL v xs) f) : ∃ ds f', Owns st (xs.map v) ds f' ∧ ((∃ n, r = .v (.ref n) ∧ st[n]? = some (.lst ds)) ∨ r = .o (.lst ds)) := by
  cases h with
  | v h =>
    obtain ⟨n, ds, f', rfl, k1, k2, rfl⟩ := h.lst_inv
    exact ⟨ds, f', k2, .inl ⟨n, rfl, k1⟩⟩
  | o h =>
    cases h with
    | lst h => exact ⟨_, f, h, .inr rfl⟩
theorem gL_casesP {xs : List β} {r : R} {f : List Nat} (h : ROwn st r (gL (gM eb) xs) f) : (∃ n, r = .v (.ref n) ∧ st[n]? = some (.lst (xs.map fun x => (eb x).d))) ∨ r = .o (.lst (xs.map fun x => (eb x).d)) := by
  obtain ⟨ds, f', h1, h2⟩ := gL_cases h
  obtain ⟨rfl, _⟩ := Owns.pv_inv h1
  exact h2
theorem idx_lst {r : R} {ds : List D} (i : Int) (h : (∃ n, r = .v (.ref n) ∧ st[n]? = some (.lst ds)) ∨ r = .o (.lst ds)) : idx st r (.v (.int i)) = atI ds i := by
  rcases h with ⟨n, rfl, hn⟩ | rfl
  · simp only [idx, seqL, hn]
  · simp only [idx, seqL]
def atW {β : Type} (xs : List β) (i : Int) : W β := W.ofO (atI xs i)
theorem atI_map {γ : Type} (h : β → γ) (xs : List β) (i : Int) : atI (xs.map h) i = (atI xs i).map h := by
  unfold atI
  rw [List.length_map]
  cases ixN xs.length i with
  | none => rfl
  | some k => simp
theorem op2_ixS : Op2W gIx (gM (eS eb)) (gM eI) atW (gM eb) := fun st xs i ra rb f1 f2 Q X h1 h2 ⟨a, q1, q2⟩ => by
  obtain ⟨rfl, _⟩ := h1.tup_inv
  obtain ⟨rfl, _⟩ := h2.tup_inv
  refine ⟨a, .v (eb a).d, q2, ?_, .v (.im _)⟩
  rw [eS_d]
  have : idx st (.v (.tup (xs.map fun x => (eb x).d))) (.v (PV.int i).d) = some (eb a).d := by
    show atI _ i = _
    rw [atI_map, q1]; rfl
  unfold gIx
  rw [this]
theorem op2_ixL : Op2W gIx (gL (gM eb)) (gM eI) atW (gM eb) := fun st xs i ra rb f1 f2 Q X h1 h2 ⟨a, q1, q2⟩ => by
  have hc := gL_casesP h1
  obtain ⟨rfl, _⟩ := h2.tup_inv
  refine ⟨a, .v (eb a).d, q2, ?_, .v (.im _)⟩
  have : idx st ra (.v (PV.int i).d) = some (eb a).d := by
    refine (idx_lst i hc).trans ?_
    rw [atI_map, q1]; rfl
  unfold gIx
  rw [this]
theorem owns_at : ∀ {xs : List β} {ds : List D} {f : List Nat} {k : Nat} {a : β}, Owns st (xs.map v) ds f → xs[k]? = some a → ∃ d f', ds[k]? = some d ∧ Own st (v a) d f'
  | [], _, _, k, a, _, h => by simp at h
  | x :: xs, _, _, 0, a, .cons h _, e => by simp at e; subst e; exact ⟨_, _, rfl, h⟩
  | x :: xs, _, _, k + 1, a, .cons _ t, e => owns_at (k := k) t (by simpa using e)
/-- what a list of lists holds at a place: to be looked at -/
theorem op2_ixR : Op2R gIx (gL v) (gM eI) atW v := fun st xs i ra rb f1 f2 Q X h1 h2 ⟨a, q1, q2⟩ => by
  obtain ⟨ds, f', s4, s1⟩ := gL_cases h1
  obtain ⟨rfl, _⟩ := h2.tup_inv
  have hl := s4.length
  simp only [List.length_map] at hl
  unfold atI at q1
  cases hk : ixN xs.length i with
  | none => rw [hk] at q1; cases q1
  | some k =>
    rw [hk] at q1
    obtain ⟨d, f3, k1, k2⟩ := owns_at s4 q1
    refine ⟨a, .v d, f3, q2, ?_, .v k2⟩
    have : idx st ra (.v (PV.int i).d) = some d := by
      refine (idx_lst i s1).trans ?_
      unfold atI
      rw [← hl, hk]; exact k1
    unfold gIx
    rw [this]
def inW (a : α) (xs : List α) : W Bool := W.pure (decide (a ∈ xs))
def ninW (a : α) (xs : List α) : W Bool := W.pure (!decide (a ∈ xs))
theorem in_lst {m : Nat} {a : α} {xs : List α} {r : R} {f : List Nat} (he : EqE e m) (hm : m ≤ 59) (h : ROwn st r (gL (gM e) xs) f) : inP st (.v (e a).d) r = some (decide (a ∈ xs)) := by
  obtain ⟨s1, s2, s3, s4, s5, _⟩ := gL_pv h
  obtain ⟨a1, a2⟩ := he.ok a
  have e1 : R.toP st 60 (.v (e a).d) = some (e a).pd := PV.toP _ 60 a1 (by omega)
  have e2 : (xs.map fun x => (e x).d).mapM (D.toP st 60) = some ((xs.map e).map PV.pd) := by
    have := PV.toPs (st := st) (xs.map e) 60 (soks_map he xs) (Nat.le_trans (deps_map he xs) (by omega))
    rw [PV.ds_map, PV.pds_map, List.map_map] at this
    exact this
  have e3 : itemsP st r = some ((xs.map e).map PV.pd) := by
    unfold itemsP
    split
    · exact absurd rfl (s4 _)
    · rw [s1]; exact e2
  unfold inP
  split
  · exact absurd rfl (s5 _)
  · rw [e3]
    simp only [e1, Option.map_some, any_eqv he]
theorem op2_inL {m : Nat} (he : EqE e m) (hm : m ≤ 59 := by decide) : Op2W gIn (gM e) (gL (gM e)) inW (gM eB) := fun st a xs ra rb f1 f2 Q X h1 h2 q => by
  obtain ⟨rfl, _⟩ := h1.tup_inv
  refine ⟨_, .v (.bl (decide (a ∈ xs))), q, ?_, .v (.im (.bl _))⟩
  unfold gIn
  rw [in_lst he hm h2]
theorem op2_ninL {m : Nat} (he : EqE e m) (hm : m ≤ 59 := by decide) : Op2W gNotIn (gM e) (gL (gM e)) ninW (gM eB) := fun st a xs ra rb f1 f2 Q X h1 h2 q => by
  obtain ⟨rfl, _⟩ := h1.tup_inv
  refine ⟨_, .v (.bl (!decide (a ∈ xs))), q, ?_, .v (.im (.bl _))⟩
  unfold gNotIn
  rw [in_lst he hm h2]
def modW (i j : Int) : W Int := W.need (0 < j) (W.pure (i % j))
def divW (i j : Int) : W Int := W.need (0 < j ∧ j < 1073741824) (W.pure (i / j))
theorem op2_modW : Op2W gMod (gM eI) (gM eI) modW (gM eI) := fun st i j ra rb f1 f2 Q X h1 h2 ⟨c, q⟩ => by
  obtain ⟨rfl, _⟩ := h1.tup_inv
  obtain ⟨rfl, _⟩ := h2.tup_inv
  refine ⟨_, .v (.int (i % j)), q, ?_, .v (.im (.int _))⟩
  show (if _ then _ else _) = _
  rw [if_pos c]
theorem op2_divW : Op2W gDiv (gM eI) (gM eI) divW (gM eI) := fun st i j ra rb f1 f2 Q X h1 h2 ⟨c, q⟩ => by
  obtain ⟨rfl, _⟩ := h1.tup_inv
  obtain ⟨rfl, _⟩ := h2.tup_inv
  refine ⟨_, .v (.int (i / j)), q, ?_, .v (.im (.int _))⟩
  show (if _ then _ else _) = _
  rw [if_pos c]
def mulW (i j : Int) : W Int := W.need (i.natAbs < 1000000000000000000 ∨ j.natAbs < 1000000000000000000) (W.pure (i * j))
theorem op2_mulW : Op2W gMul (gM eI) (gM eI) mulW (gM eI) := fun st i j ra rb f1 f2 Q X h1 h2 ⟨c, q⟩ => by
  obtain ⟨rfl, _⟩ := h1.tup_inv
  obtain ⟨rfl, _⟩ := h2.tup_inv
  refine ⟨_, .v (.int (i * j)), q, ?_, .v (.im (.int _))⟩
  show (if _ then _ else _) = _
  rw [if_pos c]
def addW (i j : Int) : W Int := W.pure (i + j)
def subW (i j : Int) : W Int := W.pure (i - j)
theorem op2_addW : Op2W gAdd (gM eI) (gM eI) addW (gM eI) := fun st i j ra rb f1 f2 Q X h1 h2 q => by
  obtain ⟨rfl, _⟩ := h1.tup_inv
  obtain ⟨rfl, _⟩ := h2.tup_inv
  exact ⟨_, .v (.int (i + j)), q, rfl, .v (.im (.int _))⟩
theorem op2_subW : Op2W gSub (gM eI) (gM eI) subW (gM eI) := fun st i j ra rb f1 f2 Q X h1 h2 q => by
  obtain ⟨rfl, _⟩ := h1.tup_inv
  obtain ⟨rfl, _⟩ := h2.tup_inv
  exact ⟨_, .v (.int (i - j)), q, rfl, .v (.im (.int _))⟩
def ltW (i j : Int) : W Bool := W.pure (decide (i < j))
def leW (i j : Int) : W Bool := W.pure (decide (i ≤ j))
theorem op2_ltW : Op2W gLt (gM eI) (gM eI) ltW (gM eB) := fun st i j ra rb f1 f2 Q X h1 h2 q => by
  obtain ⟨rfl, _⟩ := h1.tup_inv
  obtain ⟨rfl, _⟩ := h2.tup_inv
  exact ⟨_, .v (.bl _), q, rfl, .v (.im (.bl _))⟩
theorem op2_leW : Op2W gLe (gM eI) (gM eI) leW (gM eB) := fun st i j ra rb f1 f2 Q X h1 h2 q => by
  obtain ⟨rfl, _⟩ := h1.tup_inv
  obtain ⟨rfl, _⟩ := h2.tup_inv
  exact ⟨_, .v (.bl _), q, rfl, .v (.im (.bl _))⟩
theorem op2_gtW : Op2W gGt (gM eI) (gM eI) (fun i j => ltW j i) (gM eB) := fun st i j ra rb f1 f2 Q X h1 h2 q => by
  obtain ⟨rfl, _⟩ := h1.tup_inv
  obtain ⟨rfl, _⟩ := h2.tup_inv
  exact ⟨_, .v (.bl _), q, rfl, .v (.im (.bl _))⟩
theorem op2_geW : Op2W gGe (gM eI) (gM eI) (fun i j => leW j i) (gM eB) := fun st i j ra rb f1 f2 Q X h1 h2 q => by
  obtain ⟨rfl, _⟩ := h1.tup_inv
  obtain ⟨rfl, _⟩ := h2.tup_inv
  exact ⟨_, .v (.bl _), q, rfl, .v (.im (.bl _))⟩
def catW {β : Type} (xs ys : List β) : W (List β) := W.need (xs.length + ys.length ≤ 1000000) (W.pure (xs ++ ys))
theorem op2_catS : Op2W gAdd (gM (eS eb)) (gM (eS eb)) catW (gM (eS eb)) := fun st xs ys ra rb f1 f2 Q X h1 h2 ⟨c, q⟩ => by
  obtain ⟨rfl, _⟩ := h1.tup_inv
  obtain ⟨rfl, _⟩ := h2.tup_inv
  refine ⟨_, .v (eS eb (xs ++ ys)).d, q, ?_, .v (.im _)⟩
  rw [eS_d, eS_d, eS_d]
  show (if _ then _ else _) = _
  rw [if_pos (by simpa using c), List.map_append]
theorem op2_catL : Op2W gAdd (gL (gM eb)) (gL (gM eb)) catW (gL (gM eb)) := fun st xs ys ra rb f1 f2 Q X h1 h2 ⟨c, q⟩ => by
  obtain ⟨a1, a2, a3, a4, a5, a6⟩ := gL_pv h1
  obtain ⟨b1, b2, b3, b4, b5, b6⟩ := gL_pv h2
  refine ⟨_, .o (.lst ((xs ++ ys).map fun x => (eb x).d)), q, ?_, .o (.lst (Owns.pv eb _))⟩
  unfold gAdd
  split
  · exact absurd rfl (a6 _)
  · exact absurd rfl (a5 _)
  · exact absurd rfl (a4 _)
  · simp only [a2, b2, List.length_map]
    rw [if_pos c, List.map_append]
def repW {β : Type} (xs : List β) (k : Int) : W (List β) := W.need (0 ≤ k ∧ k ≤ 1000000 ∧ xs.length * k.toNat ≤ 1000000) (W.pure (List.replicate k.toNat xs).flatten)
theorem op2_rep : Op2W gMul (gL (gM eb)) (gM eI) repW (gL (gM eb)) := fun st xs k ra rb f1 f2 Q X h1 h2 ⟨c, q⟩ => by
  have hc := gL_casesP h1
  obtain ⟨rfl, _⟩ := h2.tup_inv
  refine ⟨_, .o (.lst (((List.replicate k.toNat xs).flatten).map fun x => (eb x).d)), q, ?_, .o (.lst (Owns.pv eb _))⟩
  rcases hc with ⟨n, rfl, hn⟩ | rfl
  · show gMul (.v (.ref n)) (.v (.int k)) st = _
    simp only [gMul, seqM, hn, List.length_map]
    rw [if_pos c, List.map_flatten, List.map_replicate]
  · show gMul (.o _) (.v (.int k)) st = _
    simp only [gMul, seqM, List.length_map]
    rw [if_pos c, List.map_flatten, List.map_replicate]
def eqLW (xs ys : List α) : W Bool := W.pure (decide (xs = ys))
def neLW (xs ys : List α) : W Bool := W.pure (!decide (xs = ys))
theorem gL_toP {m : Nat} {xs : List α} {r : R} {f : List Nat} (he : EqE e m) (hm : m ≤ 58) (h : ROwn st r (gL (gM e) xs) f) : r.toP st 60 = some (.list ((xs.map e).map PV.pd)) := by
  have e2 : ∀ n, 58 ≤ n → (xs.map fun x => (e x).d).mapM (D.toP st n) = some ((xs.map e).map PV.pd) := fun n hn => by
    have := PV.toPs (st := st) (xs.map e) n (soks_map he xs) (Nat.le_trans (deps_map he xs) (by omega))
    rw [PV.ds_map, PV.pds_map, List.map_map] at this
    exact this
  cases h with
  | v h =>
    obtain ⟨n, ds, f', rfl, k1, k2, rfl⟩ := h.lst_inv
    obtain ⟨rfl, _⟩ := Owns.pv_inv k2
    show D.toP st 60 (.ref n) = _
    simp only [D.toP, k1, e2 59 (by decide), Option.map_some]
  | o h =>
    cases h with
    | lst h =>
      obtain ⟨rfl, _⟩ := Owns.pv_inv h
      show (List.mapM (D.toP st 60) _).map PyData.list = _
      rw [e2 60 (by decide)]; rfl
theorem op2_eqL {m : Nat} (he : EqE e m) (hm : m ≤ 58 := by decide) : Op2W gEq (gL (gM e)) (gL (gM e)) eqLW (gM eB) := fun st xs ys ra rb f1 f2 Q X h1 h2 q => by
  refine ⟨_, .v (.bl (decide (xs = ys))), q, ?_, .v (.im (.bl _))⟩
  unfold gEq
  simp only [gL_toP he hm h1, gL_toP he hm h2, PyData.eqv, eqAll he]
theorem op2_neL {m : Nat} (he : EqE e m) (hm : m ≤ 58 := by decide) : Op2W gNe (gL (gM e)) (gL (gM e)) neLW (gM eB) := fun st xs ys ra rb f1 f2 Q X h1 h2 q => by
  refine ⟨_, .v (.bl (!decide (xs = ys))), q, ?_, .v (.im (.bl _))⟩
  unfold gNe
  simp only [gL_toP he hm h1, gL_toP he hm h2, PyData.eqv, eqAll he]
def lenW {β : Type} (xs : List β) : W Int := W.pure (xs.length : Int)
theorem op1_lenL : Op1W gLen (gL v) lenW (gM eI) := fun st xs ra f1 Q X h1 q => by
  obtain ⟨ds, f', s1, s2, s3, s4⟩ := gL_seqL h1
  have hl := s4.length
  simp only [List.length_map] at hl
  refine ⟨_, .v (.int (xs.length : Int)), q, ?_, .v (.im (.int _))⟩
  unfold gLen
  split
  · cases s1
  · cases s1
  · rw [s1, hl]
def idW {β : Type} (xs : β) : W β := W.pure xs
theorem op1_tuple : Op1W gTuple (gL (gM eb)) idW (gM (eS eb)) := fun st xs ra f1 Q X h1 q => by
  obtain ⟨s1, s2, s3, s4, s5, _⟩ := gL_pv h1
  refine ⟨xs, .v (eS eb xs).d, q, ?_, .v (.im _)⟩
  rw [eS_d]
  unfold gTuple
  split
  · exact absurd rfl (s4 _)
  · rw [s1]
theorem op1_tupleS : Op1W gTuple (gM (eS eb)) idW (gM (eS eb)) := fun st xs ra f1 Q X h1 q => by
  obtain ⟨rfl, _⟩ := h1.tup_inv
  refine ⟨xs, .v (eS eb xs).d, q, ?_, .v (.im _)⟩
  rw [eS_d]; rfl
theorem op1_listS : Op1W gList (gM (eS eb)) idW (gL (gM eb)) := fun st xs ra f1 Q X h1 q => by
  obtain ⟨rfl, _⟩ := h1.tup_inv
  refine ⟨xs, .o (.lst (xs.map fun x => (eb x).d)), q, ?_, .o (.lst (Owns.pv eb xs))⟩
  rw [eS_d]; rfl
theorem op1_listL : Op1W gList (gL (gM eb)) idW (gL (gM eb)) := fun st xs ra f1 Q X h1 q => by
  obtain ⟨s1, s2, s3, s4, s5, _⟩ := gL_pv h1
  refine ⟨xs, .o (.lst (xs.map fun x => (eb x).d)), q, ?_, .o (.lst (Owns.pv eb xs))⟩
  unfold gList
  split
  · exact absurd rfl (s4 _)
  · rw [s1]
theorem asI_map (xs : List Int) : (xs.map fun x => (eI x).d).mapM D.asI = some xs := by
  induction xs with
  | nil => rfl
  | cons x xs ih => rw [List.map_cons, List.mapM_cons, ih]; rfl
def sortW (xs : List Int) : W (List Int) := W.pure (srt ltI xs)
theorem op1_sortL : Op1W gSorted (gL (gM eI)) sortW (gL (gM eI)) := fun st xs ra f1 Q X h1 q => by
  obtain ⟨s1, s2, s3, s4, s5, _⟩ := gL_pv h1
  refine ⟨_, .o (.lst ((srt ltI xs).map fun x => (eI x).d)), q, ?_, .o (.lst (Owns.pv eI _))⟩
  unfold gSorted
  rw [s3]
  simp only [s1, asI_map]; rfl
end
end Fx

set_option Elab.async false
set_option linter.all false
set_option maxRecDepth 100000
set_option maxHeartbeats 4000000
set_option autoImplicit false
/-! Fx, part Zc: what is written; displays; dicts, sets, texts. -/
namespace Fx
open PySem PySem.Spec PyProof.Rows L2
variable [BagAt]

theorem Own.ob_inv {st : Store} {g : G} {d : D} {f : List Nat} (h : Own st g d f) (b : Ob g) : ∃ n x f', d = .ref n ∧ st[n]? = some x ∧ OOwn st x g f' ∧ f = n :: f' := by
  cases h with
  | im p => cases b
  | bag => cases b
  | obj h o => exact ⟨_, _, _, rfl, h, o, rfl⟩
  | tp o => cases b
section
variable {B : List O → Prop} {Γ : Sl} {fr fv : List Nat} {env : Env} {s : Store}
/-- an object of a name is written -/
theorem Rel.upd {i : Nat} {o : Option Nat} {g : G} (r : Rel B Γ (fv ++ fr) env s) (h : Γ[i]? = some (some (o, g))) (b : Ob g) : ∃ n x0 f, env[i]? = some (some (.ref n)) ∧ s[n]? = some x0 ∧ OOwn s x0 g f ∧
    ∀ (x : O) (g' : G) (f' fv' rest : List Nat), OBl s.length x → (f ++ fv).Perm (f' ++ (fv' ++ rest)) → OOwn s x g' f' → Rel B (Γ.set i (some (o, g'))) (fv' ++ fr) env (s.set n x) ∧ Keep fr s (s.set n x) ∧ ∀ m, m ∈ fv' → (s.set n x)[m]? = s[m]? := by
  obtain ⟨d, f0, h1, h2, h3, h4⟩ := r.take h
  obtain ⟨n, x0, f, rfl, k1, k2, rfl⟩ := h2.ob_inv b
  refine ⟨n, x0, f, h1, k1, k2, fun x g' f' fv' rest hx hp ho => ?_⟩
  obtain ⟨fs, hr, hk⟩ := h4
  -- Ok (fs ++ ((n :: f) ++ (fv ++ fr)))
  have p1 : (fs ++ ((n :: f) ++ (fv ++ fr))).Perm (n :: (fs ++ ((f' ++ (fv' ++ rest)) ++ fr))) := by
    refine List.Perm.trans ?_ (List.perm_middle)
    refine List.Perm.append_left fs ?_
    show (n :: (f ++ (fv ++ fr))).Perm (n :: ((f' ++ (fv' ++ rest)) ++ fr))
    rw [← List.append_assoc f fv fr]
    exact (hp.append_right fr).cons n
  have k3 := hk.perm p1
  have nn := (List.nodup_cons.mp k3.nd).1
  have n2 : BagAt.m ≤ n := (k3.bd n (by simp)).1
  have nf : ∀ m, m ∈ fs ++ ((f' ++ (fv' ++ rest)) ++ fr) → (s.set n x)[m]? = s[m]? := fun m hm => List.getElem?_set_ne (fun e => nn (by rw [e]; exact hm))
  have hl : n < s.length := (List.getElem?_eq_some_iff.mp k1).1
  have k4 := k3.set n2 hx
  have il : i < (Γ.set i none).length := by simp; exact (List.getElem?_eq_some_iff.mp h).1
  have w : Own (s.set n x) g' (.ref n) (n :: f') := .obj (List.getElem?_set_self hl) (ho.keep fun m hm => nf m (by simp [hm]))
  have r1 : Rel B (Γ.set i none) ((n :: f') ++ (fv' ++ fr)) env (s.set n x) := by
    refine ⟨fs, hr.keep fun m hm => nf m (by simp [hm]), ?_⟩
    have k5 : Ok B (n :: (fs ++ ((f' ++ fv') ++ fr))) (s.set n x) := k4.sub (List.Sublist.cons_cons n (List.Sublist.append_left (List.Sublist.append_right (by rw [← List.append_assoc]; exact List.sublist_append_left _ _) fr) fs))
    refine k5.perm ?_
    refine (List.perm_middle (l₁ := fs) (a := n)).symm.trans (List.Perm.append_left fs ?_)
    rw [List.append_assoc]; exact List.Perm.refl _
  have r2 := r1.back (o := o) il h1 w h3
  rw [List.set_set] at r2
  exact ⟨r2, keep_set (fun z => nn (by simp [z])), fun m hm => nf m (by simp [hm])⟩
end
section
variable {B : List O → Prop} {Γ : Sl} {f fa fi : FE} {α β τ : Type} {v : τ → G} {i : Nat} {o : Option Nat} {xs : List τ} {e : τ → PV} {g : FA}
def appW (xs : List τ) (a : τ) : W (List τ) := W.need (xs.length < 1000000) (W.pure (xs ++ [a]))
def appK (xs : List τ) (a : α) : W α := W.need (xs.length < 1000000) (W.pure a)
theorem owns_snoc {st : Store} {gs : List G} {ds : List D} {f : List Nat} {x : G} {d : D} {f' : List Nat} (h : Owns st gs ds f) (w : Own st x d f') : Owns st (gs ++ [x]) (ds ++ [d]) (f ++ f') := by
  have := h.app (Owns.cons w .nil)
  rwa [List.append_nil] at this
/-- x.append(..) -/
theorem we_append' {m : W α} {h : α → τ} {Γ1 : α → Sl} (h0 : Γ[i]? = some (some (o, gL v xs))) (ha : WE B Γ fa m (fun a => v (h a)) Γ1) (h1 : ∀ a, (Γ1 a)[i]? = some (some (o, gL v xs))) :
    WE B Γ (fMeth1 gAppend (fName i) fa) (m.bind fun a => appK xs a) (fun _ => .im .non) (fun a => (Γ1 a).set i (some (o, gL v (xs ++ [h a])))) := fun fr env st Q X r q => by
  obtain ⟨d0, f0, z1, z2, _⟩ := r.read h0
  obtain ⟨n0, ds0, f0', rfl, z3, z4, rfl⟩ := z2.lst_inv
  unfold fMeth1
  rw [ev_name z1]
  simp only [Out.bind_ok, seqL_ref z3]
  refine (ha fr env st _ X r q).bind (fun ra s ⟨a, fv, ⟨c, k1⟩, k2, k3, k4⟩ => ?_) fun _ _ h => h
  obtain ⟨fv', w1, w2, w3⟩ := own_alloc k2 k3 (fun n hn => Nat.lt_of_lt_of_le (r.lt n hn) k4.len)
  obtain ⟨n, x0, f1, u1, u2, u3, u4⟩ := w2.upd (h1 a) (.lst _)
  rw [z1] at u1; cases u1
  cases u3 with
  | lst u3 =>
    rename_i ds
    have hlen := u3.length
    simp only [List.length_map] at hlen
    unfold gAppend
    simp only [lstAt, u2]
    rw [if_pos (by omega)]
    have w4 := (w1.lt w2.two).1
    have w5 := (u3.lt w2.two).1
    obtain ⟨r1, r2, _⟩ := u4 (.lst (ds ++ [(alloc ra s).1])) (gL v (xs ++ [h a])) (f1 ++ fv') [] [] (show Bls _ _ from Bls.of fun e he => by
      rcases List.mem_append.mp he with z | z
      · exact w5.mem _ z
      · rw [List.mem_singleton.mp z]; exact w4) (by simp) (.lst (by rw [List.map_append]; exact owns_snoc u3 w1))
    exact ⟨a, [], k1, .v (.im .non), r1, k4.trans (w3.trans r2)⟩
theorem we_append {m : W τ} (h0 : Γ[i]? = some (some (o, gL v xs))) (ha : WE B Γ fa m v (fun _ => Γ)) : WE B Γ (fMeth1 gAppend (fName i) fa) (m.bind fun a => appW xs a) (fun _ => .im .non) (fun ys => Γ.set i (some (o, gL v ys))) := fun fr env st Q X r q => by
  refine (we_append' (h := fun a => a) h0 ha (fun _ => h0) fr env st (fun a => Q (xs ++ [a])) X r q).mono (fun rr s ⟨a, fv, k1, k2, k3, k4⟩ => ?_) fun _ _ h => h
  exact ⟨xs ++ [a], fv, k1, k2, k3, k4⟩
def extW (xs ys : List τ) : W (List τ) := W.need (xs.length + ys.length ≤ 1000000) (W.pure (xs ++ ys))
theorem we_extend {m : W (List τ)} (h0 : Γ[i]? = some (some (o, gL (gM e) xs))) (ha : WE B Γ fa m (gL (gM e)) (fun _ => Γ)) : WE B Γ (fMeth1 gExtend (fName i) fa) (m.bind fun a => extW xs a) (fun _ => .im .non) (fun ys => Γ.set i (some (o, gL (gM e) ys))) := fun fr env st Q X r q => by
  obtain ⟨d0, f0, z1, z2, _⟩ := r.read h0
  obtain ⟨n0, ds0, f0', rfl, z3, z4, rfl⟩ := z2.lst_inv
  unfold fMeth1
  rw [ev_name z1]
  simp only [Out.bind_ok, seqL_ref z3]
  refine (ha fr env st _ X r q).bind (fun ra s ⟨a, fv, ⟨c, k1⟩, k2, k3, k4⟩ => ?_) fun _ _ h => h
  obtain ⟨b1, b2, b3, b4, b5, b6⟩ := gL_pv k2
  obtain ⟨n, x0, f1, u1, u2, u3, u4⟩ := k3.upd h0 (.lst _)
  rw [z1] at u1; cases u1
  cases u3 with
  | lst u3 =>
    obtain ⟨rfl, rfl⟩ := Owns.pv_inv u3
    unfold gExtend
    simp only [lstAt, u2, b2, List.length_map]
    rw [if_pos c]
    obtain ⟨r1, r2, _⟩ := u4 (.lst ((xs ++ a).map fun x => (e x).d)) (gL (gM e) (xs ++ a)) [] [] fv (show Bls _ _ from Bls.of fun d hd => by
      obtain ⟨x, _, rfl⟩ := List.mem_map.mp hd; exact (e x).blw) (by simp) (.lst (Owns.pv e _))
    rw [List.map_append] at r1 r2
    exact ⟨xs ++ a, [], k1, .v (.im .non), r1, k4.trans r2⟩
def popO (xs : List τ) : Option (τ × List τ) := match xs.getLast? with
  | some a => some (a, xs.dropLast)
  | none => none
def popW (xs : List τ) : W (τ × List τ) := W.ofO (popO xs)
theorem owns_last {st : Store} {x : τ} {ys : List τ} {ds : List D} {f : List Nat} (h : Owns st ((ys ++ [x]).map v) ds f) : ∃ ds' d f1 f2, ds = ds' ++ [d] ∧ Owns st (ys.map v) ds' f1 ∧ Own st (v x) d f2 ∧ f = f1 ++ f2 := by
  induction ys generalizing ds f with
  | nil =>
    cases h with
    | cons h t => cases t; exact ⟨[], _, [], _, rfl, .nil, h, by simp⟩
  | cons y ys ih =>
    cases h with
    | cons h t =>
      obtain ⟨ds', d, f1, f2, rfl, a, b, rfl⟩ := ih t
      exact ⟨_ :: ds', d, _ ++ f1, f2, rfl, .cons h a, b, by rw [List.append_assoc]⟩
/-- x.pop() -/
theorem we_pop (h0 : Γ[i]? = some (some (o, gL v xs))) : WE B Γ (fMeth0 gPop (fName i)) (popW xs) (fun p => v p.1) (fun p => Γ.set i (some (o, gL v p.2))) := fun fr env st Q X r ⟨p, c, q⟩ => by
  obtain ⟨n, x0, f1, u1, u2, u3, u4⟩ := Rel.upd (fv := []) r h0 (.lst _)
  cases u3 with
  | lst u3 =>
    rename_i ds
    rcases List.eq_nil_or_concat xs with e | ⟨ys, x, e⟩
    · subst e; simp [popO] at c
    · have e' : xs = ys ++ [x] := by rw [e]; simp
      clear e; subst e'
      have : p = (x, ys) := by simpa [popO] using c.symm
      subst this
      obtain ⟨ds', d, f3, f4, rfl, a1, a2, rfl⟩ := owns_last u3
      rw [show fMeth0 gPop (fName i) env st = gPop (.v (.ref n)) st from ev_meth0 (ev_name u1) (seqL_ref u2), pop_last u2]
      have w5 := (a1.lt r.two).1
      obtain ⟨r1, r2, r3⟩ := u4 (.lst ds') (gL v ys) f3 f4 [] w5 (by simp) (.lst a1)
      exact ⟨(x, ys), f4, q, .v (a2.keep fun m hm => r3 m hm), r1, r2⟩
def popAtO (xs : List τ) (k : Int) : Option (τ × List τ) := (ixN xs.length k).bind fun j => xs[j]?.map fun a => (a, xs.eraseIdx j)
def popAtW (xs : List τ) (k : Int) : W (τ × List τ) := W.need (xs.length ≤ 1000000) (W.ofO (popAtO xs k))
theorem map_eraseIdx {γ : Type} (h : τ → γ) : ∀ (W : List τ) (i : Nat), (W.map h).eraseIdx i = (W.eraseIdx i).map h
  | [], i => by cases i <;> rfl
  | a :: W, 0 => rfl
  | a :: W, i + 1 => by simp only [List.map_cons, List.eraseIdx_cons_succ, map_eraseIdx h W i]
/-- x.pop(k), of values that nothing can write -/
theorem we_popAt {m : W Int} (h0 : Γ[i]? = some (some (o, gL (gM e) xs))) (ha : WE B Γ fa m (gM eI) (fun _ => Γ)) : WE B Γ (fMeth1 gPopAt (fName i) fa) (m.bind fun k => popAtW xs k) (fun p => .im (e p.1)) (fun p => Γ.set i (some (o, gL (gM e) p.2))) := fun fr env st Q X r q => by
  obtain ⟨d0, f0, z1, z2, _⟩ := r.read h0
  obtain ⟨n0, ds0, f0', rfl, z3, z4, rfl⟩ := z2.lst_inv
  unfold fMeth1
  rw [ev_name z1]
  simp only [Out.bind_ok, seqL_ref z3]
  refine (ha fr env st _ X r q).bind (fun ra s ⟨k, fv, ⟨c, p, c2, k1⟩, k2, k3, k4⟩ => ?_) fun _ _ h => h
  obtain ⟨rfl, rfl⟩ := k2.tup_inv
  obtain ⟨n, x0, f1, u1, u2, u3, u4⟩ := Rel.upd (fv := []) k3 h0 (.lst _)
  rw [z1] at u1; cases u1
  cases u3 with
  | lst u3 =>
    obtain ⟨rfl, rfl⟩ := Owns.pv_inv u3
    unfold popAtO at c2
    cases hk : ixN xs.length k with
    | none => rw [hk] at c2; cases c2
    | some j =>
      rw [hk] at c2
      cases hj : xs[j]? with
      | none => rw [Option.bind_some, hj] at c2; cases c2
      | some a =>
        rw [Option.bind_some, hj] at c2
        cases c2
        have e1 : gPopAt (.v (.ref n0)) (.v (PV.int k).d) s = .ok (.v (e a).d) (s.set n0 (.lst ((xs.eraseIdx j).map fun x => (e x).d))) := by
          show gPopAt (.v (.ref n0)) (.v (.int k)) s = _
          unfold gPopAt
          simp only [lstAt, u2, List.length_map, hk, List.getElem?_map, hj, Option.map_some]
          rw [if_pos c, map_eraseIdx]
        rw [e1]
        obtain ⟨r1, r2, _⟩ := u4 (.lst ((xs.eraseIdx j).map fun x => (e x).d)) (gL (gM e) (xs.eraseIdx j)) [] [] [] (show Bls _ _ from Bls.of fun d hd => by
          obtain ⟨x, _, rfl⟩ := List.mem_map.mp hd; exact (e x).blw) (by simp) (.lst (Owns.pv e _))
        exact ⟨(a, xs.eraseIdx j), [], k1, .v (.im _), r1, k4.trans r2⟩

/-! ### putting -/
theorem ws_putO {m : W α} {h : α → PV} {g' : α → G} {x' : α → O} {key : α → PV} {gg : G} (h0 : Γ[i]? = some (some (o, gg))) (b : Ob gg) (hv : WE B Γ f m (fun a => .im (h a)) (fun _ => Γ)) (hk : ∀ a, WV Γ fi (key a))
    (hp : ∀ (a : α) (st : Store) (n : Nat) (x0 : O) (f0 : List Nat), st[n]? = some x0 → OOwn st x0 gg f0 → putAt (.v (.ref n)) (.v (key a).d) (h a).d st = some (st.set n (x' a)) ∧ OBl st.length (x' a) ∧ OOwn st (x' a) (g' a) []) : WS B Γ (fPut f (fName i) fi) m (fun a => .nx (Γ.set i (some (o, g' a)))) := fun fr env st Q X r q => by
  unfold fPut
  refine thenS_P (hv fr env st Q X r q) fun rr s ⟨a, fv, k1, k2, k3, k4⟩ => ?_
  obtain ⟨rfl, rfl⟩ := k2.tup_inv
  obtain ⟨n, x0, f1, u1, u2, u3, u4⟩ := Rel.upd (fv := []) k3 h0 b
  simp only [alloc_v]
  rw [ev_name u1]
  simp only [Out.thenS]
  rw [hk a env s k3.rd]
  simp only [Out.thenS]
  obtain ⟨p1, p2, p3⟩ := hp a s n x0 f1 u2 u3
  rw [p1]
  obtain ⟨r1, r2, _⟩ := u4 (x' a) (g' a) [] [] f1 p2 (by simp) p3
  exact ⟨a, _, k1, rfl, r1, k4.trans r2⟩
def putL {κ : Type} [DecidableEq κ] (kvs : List (κ × τ)) (k : κ) (v : τ) : List (κ × τ) :=
  if (kvs.any fun kv => decide (kv.1 = k)) = true then kvs.map (fun kv => if kv.1 = k then (kv.1, v) else kv) else kvs ++ [(k, v)]
theorem putD_map {κ κ' : Type} [DecidableEq κ] [DecidableEq κ'] (q : κ → κ') (hq : ∀ a b, q a = q b → a = b) (e : τ → PV) (kvs : List (κ × τ)) (k : κ) (v : τ) : putD (kvD (kvs.map fun kv => (q kv.1, e kv.2))) (q k) (e v).d = kvD ((putL kvs k v).map fun kv => (q kv.1, e kv.2)) := by
  have hd : ∀ a : κ, decide (q a = q k) = decide (a = k) := fun a => decide_eq_decide.mpr ⟨hq _ _, fun h => by rw [h]⟩
  unfold putD putL
  have ha : (kvD (kvs.map fun kv => (q kv.1, e kv.2))).any (fun kv => decide (kv.1 = q k)) = kvs.any fun kv => decide (kv.1 = k) := by
    unfold kvD
    rw [List.any_map, List.any_map]
    congr 1
    funext kv
    exact hd kv.1
  rw [ha]
  split
  · unfold kvD
    rw [List.map_map, List.map_map, List.map_map, List.map_map]
    refine List.map_congr_left fun kv _ => ?_
    show (if q kv.1 = q k then (q kv.1, (e v).d) else (q kv.1, (e kv.2).d)) = _
    by_cases h : kv.1 = k
    · simp [h]
    · have : ¬ q kv.1 = q k := fun z => h (hq _ _ z)
      simp [h, this]
  · unfold kvD
    rw [List.map_append, List.map_append]; rfl
theorem kInt_inj : ∀ a b, kInt a = kInt b → a = b := fun a b h => by cases h; rfl
theorem kPair_inj : ∀ a b : Int × Int, kPair a = kPair b → a = b := fun a b h => by
  have h' : [(.inl a.1 : Key), .inl a.2] = [.inl b.1, .inl b.2] := h
  injection h' with h1 h2
  injection h2 with h2 h3
  injection h1 with h1
  injection h2 with h2
  exact Prod.ext h1 h2
variable {kvs : List (Int × τ)} {kvs2 : List ((Int × Int) × τ)}
def putW {κ : Type} [DecidableEq κ] (kvs : List (κ × τ)) (k : κ) (v : τ) : W (List (κ × τ)) := W.need (kvs.length < 1000000) (W.pure (putL kvs k v))
theorem ws_putK {m : W τ} {k : Int} (h0 : Γ[i]? = some (some (o, gK e kvs))) (hl : True) (hv : WE B Γ f m (gM e) (fun _ => Γ)) (hk : WV Γ fi (eI k)) : WS B Γ (fPut f (fName i) fi) (m.bind fun v => putW kvs k v) (fun ys => .nx (Γ.set i (some (o, gK e ys)))) := fun fr env st Q X r q => by
  by_cases c : kvs.length < 1000000
  · have := ws_putO (h := e) (m := m) (key := fun _ => eI k) (x' := fun v => .dK (kvD ((putL kvs k v).map fun kv => (kInt kv.1, e kv.2)))) (g' := fun v => gK e (putL kvs k v)) h0 (.dk _) hv (fun _ => hk) (fun a st n x0 f0 e1 e2 => by
      cases e2
      refine ⟨?_, kvD_bl _, .dk _⟩
      show putAt (.v (.ref n)) (.v (.int k)) _ _ = _
      unfold putAt
      simp only [e1]
      rw [if_pos (by unfold kvD; simpa using c)]
      show some _ = _
      have := putD_map kInt kInt_inj e kvs k a
      rw [← this]; rfl) fr env st (fun v => Q (putL kvs k v)) X r (by
        have hm : ∀ v, putW kvs k v Q X = Q (putL kvs k v) := fun v => propext ⟨fun h => h.2, fun h => ⟨c, h⟩⟩
        show m (fun v => Q (putL kvs k v)) X
        have e2 : (fun v => putW kvs k v Q X) = fun v => Q (putL kvs k v) := funext hm
        rw [← e2]; exact q)
    exact this.map fun v hv => ⟨_, hv, rfl⟩
  · -- no such dict is written: nothing is promised
    have e2 : (fun v => putW kvs k v Q X) = fun _ => False := funext fun v => propext ⟨fun h => c h.1, fun h => h.elim⟩
    have q' : m (fun _ => False) X := by rw [← e2]; exact q
    have := hv fr env st (fun _ => False) X r q'
    unfold fPut
    refine thenS_P this fun rr s ⟨a, fv, k1, _⟩ => k1.elim
theorem ws_putK2 {m : W τ} {k : Int × Int} (h0 : Γ[i]? = some (some (o, gK2 e kvs2))) (hl : True) (hv : WE B Γ f m (gM e) (fun _ => Γ)) (hk : WV Γ fi (eP eI eI k)) : WS B Γ (fPut f (fName i) fi) (m.bind fun v => putW kvs2 k v) (fun ys => .nx (Γ.set i (some (o, gK2 e ys)))) := fun fr env st Q X r q => by
  by_cases c : kvs2.length < 1000000
  · have := ws_putO (h := e) (m := m) (key := fun _ => eP eI eI k) (x' := fun v => .dT (kvD ((putL kvs2 k v).map fun kv => (kPair kv.1, e kv.2)))) (g' := fun v => gK2 e (putL kvs2 k v)) h0 (.dt _) hv (fun _ => hk) (fun a st n x0 f0 e1 e2 => by
      cases e2
      refine ⟨?_, kvD_bl _, .dt _⟩
      show putAt (.v (.ref n)) (.v (.tup [.int k.1, .int k.2])) _ _ = _
      unfold putAt
      simp only [e1]
      rw [if_pos (by unfold kvD; simpa using c)]
      show some _ = _
      have := putD_map kPair kPair_inj e kvs2 k a
      rw [← this]; rfl) fr env st (fun v => Q (putL kvs2 k v)) X r (by
        have hm : ∀ v, putW kvs2 k v Q X = Q (putL kvs2 k v) := fun v => propext ⟨fun h => h.2, fun h => ⟨c, h⟩⟩
        show m (fun v => Q (putL kvs2 k v)) X
        have e2 : (fun v => putW kvs2 k v Q X) = fun v => Q (putL kvs2 k v) := funext hm
        rw [← e2]; exact q)
    exact this.map fun v hv => ⟨_, hv, rfl⟩
  · have e2 : (fun v => putW kvs2 k v Q X) = fun _ => False := funext fun v => propext ⟨fun h => c h.1, fun h => h.elim⟩
    have q' : m (fun _ => False) X := by rw [← e2]; exact q
    have := hv fr env st (fun _ => False) X r q'
    unfold fPut
    refine thenS_P this fun rr s ⟨a, fv, k1, _⟩ => k1.elim
/-- a list of values is written at a place -/
def setO (xs : List τ) (k : Int) (v : τ) : Option (List τ) := (ixN xs.length k).map fun j => xs.set j v
def setW (xs : List τ) (k : Int) (v : τ) : W (List τ) := W.ofO (setO xs k v)
theorem ws_putL {m : W τ} {k : Int} (h0 : Γ[i]? = some (some (o, gL (gM e) xs))) (hv : WE B Γ f m (gM e) (fun _ => Γ)) (hk : WV Γ fi (eI k)) : WS B Γ (fPut f (fName i) fi) (m.bind fun v => setW xs k v) (fun ys => .nx (Γ.set i (some (o, gL (gM e) ys)))) := fun fr env st Q X r q => by
  cases c : ixN xs.length k with
  | some j =>
    have hs : ∀ v, setO xs k v = some (xs.set j v) := fun v => by unfold setO; rw [c]; rfl
    have := ws_putO (h := e) (m := m) (key := fun _ => eI k) (x' := fun v => .lst ((xs.set j v).map fun x => (e x).d)) (g' := fun v => gL (gM e) (xs.set j v)) h0 (.lst _) hv (fun _ => hk) (fun a st n x0 f0 e1 e2 => by
      cases e2 with
      | lst e2 =>
        obtain ⟨rfl, rfl⟩ := Owns.pv_inv e2
        refine ⟨?_, show Bls _ _ from Bls.of fun d hd => by
          obtain ⟨x, _, rfl⟩ := List.mem_map.mp hd; exact (e x).blw, .lst (Owns.pv e _)⟩
        show putAt (.v (.ref n)) (.v (.int k)) _ _ = _
        unfold putAt
        simp only [e1, List.length_map, c, Option.map_some, List.map_set]) fr env st (fun v => Q (xs.set j v)) X r (by
        have hm : ∀ v, setW xs k v Q X = Q (xs.set j v) := fun v => propext ⟨fun ⟨a, h1, h2⟩ => by rw [hs v] at h1; cases h1; exact h2, fun h => ⟨_, hs v, h⟩⟩
        show m (fun v => Q (xs.set j v)) X
        have e2 : (fun v => setW xs k v Q X) = fun v => Q (xs.set j v) := funext hm
        rw [← e2]; exact q)
    exact this.map fun v hv => ⟨_, hv, rfl⟩
  | none =>
    have hs : ∀ v, setO xs k v = none := fun v => by unfold setO; rw [c]; rfl
    have e2 : (fun v => setW xs k v Q X) = fun _ => False := funext fun v => propext ⟨fun ⟨a, h1, _⟩ => (by rw [hs v] at h1; cases h1), fun h => h.elim⟩
    have q' : m (fun _ => False) X := by rw [← e2]; exact q
    have := hv fr env st (fun _ => False) X r q'
    unfold fPut
    refine thenS_P this fun rr s ⟨a, fv, k1, _⟩ => k1.elim

/-! ### looking into dicts -/
def valL {κ : Type} [DecidableEq κ] (kvs : List (κ × τ)) (k : κ) : Option τ := (kvs.find? fun kv => decide (kv.1 = k)).map (·.2)
theorem valD_map {κ κ' : Type} [DecidableEq κ] [DecidableEq κ'] (q : κ → κ') (hq : ∀ a b, q a = q b → a = b) (e : τ → PV) (k : κ) : ∀ kvs : List (κ × τ), valD (kvD (kvs.map fun kv => (q kv.1, e kv.2))) (q k) = (valL kvs k).map fun v => (e v).d
  | [] => rfl
  | kv :: kvs => by
    have ih := valD_map q hq e k kvs
    unfold valD valL kvD at ih ⊢
    rw [List.map_cons, List.map_cons, List.find?_cons, List.find?_cons]
    by_cases h : kv.1 = k
    · simp [h]
    · have : ¬ q kv.1 = q k := fun z => h (hq _ _ z)
      simp only [h, this, decide_false]
      exact ih
theorem dk_cases {st : Store} {L : List (Key × PV)} {r : R} {f : List Nat} (h : ROwn st r (.dk L) f) : (∃ n, r = .v (.ref n) ∧ st[n]? = some (.dK (kvD L))) ∨ r = .o (.dK (kvD L)) := by
  cases h with
  | v h =>
    obtain ⟨n, y, f', rfl, k1, k2, _⟩ := h.ob_inv (.dk _)
    cases k2
    exact .inl ⟨n, rfl, k1⟩
  | o h => cases h; exact .inr rfl
theorem dt_cases {st : Store} {L : List (List Key × PV)} {r : R} {f : List Nat} (h : ROwn st r (.dt L) f) : (∃ n, r = .v (.ref n) ∧ st[n]? = some (.dT (kvD L))) ∨ r = .o (.dT (kvD L)) := by
  cases h with
  | v h =>
    obtain ⟨n, y, f', rfl, k1, k2, _⟩ := h.ob_inv (.dt _)
    cases k2
    exact .inl ⟨n, rfl, k1⟩
  | o h => cases h; exact .inr rfl
theorem dk_get {st : Store} {r : R} {f : List Nat} {k : Int} (h : ROwn st r (gK e kvs) f) : dictGet st r (.int k) = some ((valL kvs k).map fun v => (e v).d) ∧ seqL st r = none ∧ (∀ xs, r ≠ .v (.tup xs)) ∧ ∀ x, r ≠ .v (.str x) := by
  have hv := valD_map kInt kInt_inj e k kvs
  rcases dk_cases h with ⟨n, rfl, hn⟩ | rfl
  · refine ⟨?_, by simp only [seqL, hn], fun xs z => (by cases z), fun xs z => (by cases z)⟩
    simp only [dictGet, objOf, hn]
    exact congrArg some hv
  · refine ⟨?_, rfl, fun xs z => (by cases z), fun xs z => (by cases z)⟩
    simp only [dictGet, objOf]
    exact congrArg some hv
theorem dt_get {st : Store} {r : R} {f : List Nat} {k : Int × Int} (h : ROwn st r (gK2 e kvs2) f) : dictGet st r (.tup [.int k.1, .int k.2]) = some ((valL kvs2 k).map fun v => (e v).d) ∧ seqL st r = none ∧ (∀ xs, r ≠ .v (.tup xs)) ∧ ∀ x, r ≠ .v (.str x) := by
  have hv := valD_map kPair kPair_inj e k kvs2
  rcases dt_cases h with ⟨n, rfl, hn⟩ | rfl
  · refine ⟨?_, by simp only [seqL, hn], fun xs z => (by cases z), fun xs z => (by cases z)⟩
    simp only [dictGet, objOf, hn]
    exact congrArg some hv
  · refine ⟨?_, rfl, fun xs z => (by cases z), fun xs z => (by cases z)⟩
    simp only [dictGet, objOf]
    exact congrArg some hv
def lookW {κ : Type} [DecidableEq κ] (kvs : List (κ × τ)) (k : κ) : W τ := W.ofO (valL kvs k)
def hasW {κ : Type} [DecidableEq κ] (k : κ) (kvs : List (κ × τ)) : W Bool := W.pure (valL kvs k).isSome
def hasNW {κ : Type} [DecidableEq κ] (k : κ) (kvs : List (κ × τ)) : W Bool := W.pure (!(valL kvs k).isSome)
theorem idx_dict {st : Store} {r : R} {k d : D} (h1 : dictGet st r k = some (some d)) (h2 : seqL st r = none) (h3 : ∀ xs, r ≠ .v (.tup xs)) (h4 : ∀ x, r ≠ .v (.str x)) : idx st r (.v k) = some d := by
  cases r with
  | o x => simp only [idx, h2, h1]; rfl
  | v y =>
    cases y with
    | tup xs => exact absurd rfl (h3 _)
    | str x => exact absurd rfl (h4 _)
    | _ => simp only [idx, h2, h1]; rfl
theorem op2_lookK : Op2W gIx (gK e) (gM eI) lookW (gM e) := fun st kvs k ra rb f1 f2 Q X h1 h2 ⟨a, q1, q2⟩ => by
  obtain ⟨g1, g2, g3, g4⟩ := dk_get (k := k) h1
  obtain ⟨rfl, _⟩ := h2.tup_inv
  rw [q1] at g1
  refine ⟨a, .v (e a).d, q2, ?_, .v (.im _)⟩
  unfold gIx
  rw [show idx st ra (.v (PV.int k).d) = some (e a).d from idx_dict g1 g2 g3 g4]
theorem op2_lookK2 : Op2W gIx (gK2 e) (gM (eP eI eI)) lookW (gM e) := fun st kvs k ra rb f1 f2 Q X h1 h2 ⟨a, q1, q2⟩ => by
  obtain ⟨g1, g2, g3, g4⟩ := dt_get (k := k) h1
  obtain ⟨rfl, _⟩ := h2.tup_inv
  rw [q1] at g1
  refine ⟨a, .v (e a).d, q2, ?_, .v (.im _)⟩
  unfold gIx
  rw [show idx st ra (.v (eP eI eI k).d) = some (e a).d from idx_dict g1 g2 g3 g4]
theorem in_dict {st : Store} {r : R} {k : D} {o : Option D} (hk : ∀ x, k ≠ .str x) (h1 : dictGet st r k = some o) (h2 : seqL st r = none) (h3 : ∀ xs, r ≠ .v (.tup xs)) (h4 : ∀ x, r ≠ .v (.str x)) : inP st (.v k) r = some o.isSome := by
  have e3 : itemsP st r = none := by
    unfold itemsP
    split
    · exact absurd rfl (h3 _)
    · rw [h2]; rfl
  unfold inP
  split
  · exact absurd rfl (h4 _)
  · rw [e3]
    simp only [h1, Option.map_some]
theorem op2_inK : Op2W gIn (gM eI) (gK e) hasW (gM eB) := fun st k kvs ra rb f1 f2 Q X h1 h2 q => by
  obtain ⟨g1, g2, g3, g4⟩ := dk_get (k := k) h2
  obtain ⟨rfl, _⟩ := h1.tup_inv
  refine ⟨_, .v (.bl _), q, ?_, .v (.im (.bl _))⟩
  unfold gIn
  rw [show inP st (.v (PV.int k).d) rb = _ from in_dict (fun x z => by cases z) g1 g2 g3 g4, Option.isSome_map]
theorem op2_ninK : Op2W gNotIn (gM eI) (gK e) hasNW (gM eB) := fun st k kvs ra rb f1 f2 Q X h1 h2 q => by
  obtain ⟨g1, g2, g3, g4⟩ := dk_get (k := k) h2
  obtain ⟨rfl, _⟩ := h1.tup_inv
  refine ⟨_, .v (.bl _), q, ?_, .v (.im (.bl _))⟩
  unfold gNotIn
  rw [show inP st (.v (PV.int k).d) rb = _ from in_dict (fun x z => by cases z) g1 g2 g3 g4, Option.isSome_map]
theorem op2_inK2 : Op2W gIn (gM (eP eI eI)) (gK2 e) hasW (gM eB) := fun st k kvs ra rb f1 f2 Q X h1 h2 q => by
  obtain ⟨g1, g2, g3, g4⟩ := dt_get (k := k) h2
  obtain ⟨rfl, _⟩ := h1.tup_inv
  refine ⟨_, .v (.bl _), q, ?_, .v (.im (.bl _))⟩
  unfold gIn
  rw [show inP st (.v (eP eI eI k).d) rb = _ from in_dict (fun x z => by cases z) g1 g2 g3 g4, Option.isSome_map]
theorem op2_ninK2 : Op2W gNotIn (gM (eP eI eI)) (gK2 e) hasNW (gM eB) := fun st k kvs ra rb f1 f2 Q X h1 h2 q => by
  obtain ⟨g1, g2, g3, g4⟩ := dt_get (k := k) h2
  obtain ⟨rfl, _⟩ := h1.tup_inv
  refine ⟨_, .v (.bl _), q, ?_, .v (.im (.bl _))⟩
  unfold gNotIn
  rw [show inP st (.v (eP eI eI k).d) rb = _ from in_dict (fun x z => by cases z) g1 g2 g3 g4, Option.isSome_map]
theorem intKeys_kInt (e : τ → PV) : ∀ kvs : List (Int × τ), intKeys (kvD (kvs.map fun kv => (kInt kv.1, e kv.2))) = some (kvs.map (·.1))
  | [] => rfl
  | kv :: kvs => by
    have ih := intKeys_kInt e kvs
    unfold intKeys kvD at ih ⊢
    rw [List.map_cons, List.map_cons, List.mapM_cons, ih]; rfl
def sortK (kvs : List (Int × τ)) : W (List Int) := W.need (kvs.length < 64) (W.pure (srt ltI (kvs.map (·.1))))
theorem op1_sortK : Op1W gSorted (gK e) sortK (gL (gM eI)) := fun st kvs ra f1 Q X h1 ⟨c, q⟩ => by
  have hk := intKeys_kInt e kvs
  refine ⟨_, .o (.lst ((srt ltI (kvs.map (·.1))).map fun x => (eI x).d)), q, ?_, .o (.lst (Owns.pv eI _))⟩
  rcases dk_cases h1 with ⟨n, rfl, hn⟩ | rfl
  · unfold gSorted
    simp only [objOf, hn, hk]
    rw [if_pos (by simpa using c)]; rfl
  · unfold gSorted
    simp only [objOf, hk]
    rw [if_pos (by simpa using c)]; rfl

/-! ### displays -/
theorem wp_lst {xs : List τ} (h : WVs Γ g (xs.map e)) (hl : xs.length ≤ 1000000 := by decide) : WP Γ (fLst g) (W.pure xs) (gL (gM e)) := fun env st Q X r q => by
  refine ⟨xs, .o (.lst (xs.map fun x => (e x).d)), [], q, ?_, .o (.lst (Owns.pv e xs))⟩
  rw [ev_lst (h env st r) (by rw [PV.ds_map]; simpa using hl), PV.ds_map, List.map_map]; rfl
theorem lst_new : ∀ env st s d, fLst g env st ≠ .ok (.v d) s := fun env st s d h => by
  unfold fLst at h
  generalize g env st = o at h
  cases o with
  | stuck => cases h
  | exc x s => cases h
  | ok q s1 =>
    simp only [Out.bind_ok] at h
    split at h <;> cases h
theorem aown_own {env : Env} {st : Store} : ∀ {gs : List G} {ds : List D} {fs : List Nat}, AOwn st env (gs.map .own) ds fs → Owns st gs ds fs
  | [], _, _, .nil => .nil
  | _ :: _, _, _, .own h t => .cons h (aown_own t)
theorem we_lstW {m : W α} {as : α → List Arg} {gs : α → List G} {Γ' : α → Sl} (h : WA B Γ g m as Γ') (ha : ∀ a, as a = (gs a).map .own) (hl : ∀ a, (gs a).length ≤ 1000000) : WE B Γ (fLst g) m (fun a => .lst (gs a)) Γ' := fun fr env st Q X r q => by
  unfold fLst
  refine (h fr env st Q X r q).bind (fun ds s ⟨a, fv, k1, k2, k3, k4⟩ => ?_) fun _ _ h => h
  rw [ha] at k2
  have w := aown_own k2
  have := hl a
  rw [w.length] at this
  rw [if_pos this]
  exact ⟨a, fv, k1, .o (.lst w), k3, k4⟩
theorem we_tupW {m : W α} {as : α → List Arg} {ps : α → List PV} {Γ' : α → Sl} (h : WA B Γ g m as Γ') (ha : ∀ a, as a = ((ps a).map .im).map .own) (hl : ∀ a, (ps a).length ≤ 1000000) : WE B Γ (fTup g) m (fun a => .im (.tup (ps a))) Γ' := fun fr env st Q X r q => by
  unfold fTup
  refine (h fr env st Q X r q).bind (fun ds s ⟨a, fv, k1, k2, k3, k4⟩ => ?_) fun _ _ h => h
  rw [ha] at k2
  have w := aown_own k2
  have := hl a
  have hw := w.length
  rw [List.length_map] at hw
  rw [hw] at this
  rw [if_pos this]
  obtain ⟨rfl, rfl⟩ := w.ims_inv
  exact ⟨a, [], k1, .v (.im (.tup (ps a))), k3, k4⟩
/-- a tuple that holds lists -/
theorem we_tupG {m : W α} {as : α → List Arg} {gs : α → List G} {Γ' : α → Sl} (h : WA B Γ g m as Γ') (ha : ∀ a, as a = (gs a).map .own) (hl : ∀ a, (gs a).length ≤ 1000000) : WE B Γ (fTup g) m (fun a => .tp (gs a)) Γ' := fun fr env st Q X r q => by
  unfold fTup
  refine (h fr env st Q X r q).bind (fun ds s ⟨a, fv, k1, k2, k3, k4⟩ => ?_) fun _ _ h => h
  rw [ha] at k2
  have w := aown_own k2
  have := hl a
  rw [w.length] at this
  rw [if_pos this]
  exact ⟨a, fv, k1, .v (.tp w), k3, k4⟩
theorem we_dK : WE B Γ fDK (W.pure ([] : List (Int × τ))) (gK e) (fun _ => Γ) := fun fr env st Q X r q => ⟨[], [], q, .o (.dk []), r, .refl⟩
theorem we_dT : WE B Γ fDT (W.pure ([] : List ((Int × Int) × τ))) (gK2 e) (fun _ => Γ) := fun fr env st Q X r q => ⟨[], [], q, .o (.dt []), r, .refl⟩
def lrngW (j : Int) : W (List Int) := W.need (0 ≤ j ∧ j < 1000000) (W.pure (rngP 0 j.toNat))
theorem wp_lrng {m : W Int} (h : WP Γ f m (gM eI)) : WP Γ (fListRng1 f) (m.bind lrngW) (gL (gM eI)) := fun env st Q X r q => by
  obtain ⟨j, rr, fv, ⟨c, h1⟩, h2, h3⟩ := h env st _ X r q
  obtain ⟨rfl, rfl⟩ := h3.tup_inv
  refine ⟨_, .o (.lst ((rngP 0 j.toNat).map fun x => (eI x).d)), [], h1, ?_, .o (.lst (Owns.pv eI _))⟩
  rw [ev_listRng1 h2 c, rngP_d]
theorem lrng_new : ∀ env st s d, fListRng1 f env st ≠ .ok (.v d) s := fun env st s d h => by
  unfold fListRng1 at h
  generalize f env st = o at h
  cases o with
  | stuck => cases h
  | exc x s => cases h
  | ok q s1 =>
    simp only [Out.bind_ok] at h
    split at h
    · split at h <;> cases h
    · cases h
/-- two names at once -/
theorem ws_par {i j : Nat} {m : W α} {as : α → List Arg} {g1 g2 : α → G} {Γ' : α → Sl} (h : WA B Γ g m as Γ') (ha : ∀ a, as a = [.own (g1 a), .own (g2 a)]) (hi : ∀ a, i < (Γ' a).length) (hj : ∀ a, j < (Γ' a).length) : WS B Γ (fPar i j g) m (fun a => .nx (((Γ' a).set i (sg (g1 a))).set j (sg (g2 a)))) := fun fr env st Q X r q => by
  unfold fPar
  refine thenS_P (h fr env st Q X r q) fun ds s ⟨a, fv, k1, k2, k3, k4⟩ => ?_
  rw [ha] at k2
  cases k2 with
  | own w1 k2 =>
    cases k2 with
    | own w2 k2 =>
      cases k2
      rename_i d1 f1 d2 f2 hyp
      rw [List.append_nil] at k3
      have k5 : Rel B (Γ' a) (f1 ++ (f2 ++ fr)) env s := by rwa [← List.append_assoc]
      have k6 := k5.assign (i := i) (o := none) (hi a) w1 (fun n e => nomatch e)
      have k7 := k6.assign (i := j) (o := none) (by rw [List.length_set]; exact hj a) w2 (fun n e => nomatch e)
      exact ⟨a, _, k1, rfl, k7, k4⟩
theorem ws_par3 {i j k : Nat} {m : W α} {as : α → List Arg} {g1 g2 g3 : α → G} {Γ' : α → Sl} (h : WA B Γ g m as Γ') (ha : ∀ a, as a = [.own (g1 a), .own (g2 a), .own (g3 a)]) (hi : ∀ a, i < (Γ' a).length) (hj : ∀ a, j < (Γ' a).length) (hk : ∀ a, k < (Γ' a).length) : WS B Γ (fPar3 i j k g) m (fun a => .nx ((((Γ' a).set i (sg (g1 a))).set j (sg (g2 a))).set k (sg (g3 a)))) := fun fr env st Q X r q => by
  unfold fPar3
  refine thenS_P (h fr env st Q X r q) fun ds s ⟨a, fv, k1, k2, k3, k4⟩ => ?_
  rw [ha] at k2
  cases k2 with
  | own w1 k2 =>
    cases k2 with
    | own w2 k2 =>
      cases k2 with
      | own w3 k2 =>
        cases k2
        rename_i d1 f1 d2 f2 d3 f3 hyp
        rw [List.append_nil] at k3
        have k5 : Rel B (Γ' a) (f1 ++ (f2 ++ (f3 ++ fr))) env s := by rwa [← List.append_assoc, ← List.append_assoc, List.append_assoc f1 f2 f3]
        have k6 := k5.assign (i := i) (o := none) (hi a) w1 (fun n e => nomatch e)
        have k7 := k6.assign (i := j) (o := none) (by rw [List.length_set]; exact hj a) w2 (fun n e => nomatch e)
        have k8 := k7.assign (i := k) (o := none) (by rw [List.length_set, List.length_set]; exact hk a) w3 (fun n e => nomatch e)
        exact ⟨a, _, k1, rfl, k8, k4⟩
/-- a tuple is taken apart -/
theorem ws_asg {tg : FG} {own : List Nat} {m : W α} {h : α → PV} {Γ' Γt : α → Sl} (hv : WE B Γ f m (fun a => .im (h a)) Γ') (ht : ∀ a, TG B (Γ' a) tg (h a) (Γt a) own) : WS B Γ (fAsg tg f) m (fun a => .nx (Γt a)) := fun fr env st Q X r q => by
  unfold fAsg
  refine thenS_P (hv fr env st Q X r q) fun rr s ⟨a, fv, k1, k2, k3, k4⟩ => ?_
  obtain ⟨rfl, rfl⟩ := k2.tup_inv
  obtain ⟨env', t1, t2, _⟩ := ht a fr env s k3
  simp only [alloc_v]
  rw [t1]
  exact ⟨a, _, k1, rfl, t2, k4⟩

/-! ### texts -/
def reprW (p : PyData) : W Str := W.need (p.showable = true ∧ p.shown.length ≤ 1000000) (W.pure p.shown)
theorem repr_of {st : Store} {r : R} {p : PyData} {Q : Str → Prop} {X : Xc → Prop} (h : r.toP st 60 = some p) (q : reprW p Q X) : ∃ c rc, Q c ∧ gRepr r st = .ok rc st ∧ ROwn st rc (gM eSt c) [] := by
  obtain ⟨c, q⟩ := q
  refine ⟨_, .v (.str p.shown), q, ?_, .v (.im (.str _))⟩
  unfold gRepr; rw [h]; simp only; rw [if_pos c]
variable [DecidableEq τ]
theorem op1_repr {n : Nat} (he : EqE e n) (hn : n ≤ 60 := by decide) : Op1W gRepr (gM e) (fun x => reprW (e x).pd) (gM eSt) := fun st x ra f1 Q X h1 q => by
  obtain ⟨rfl, _⟩ := h1.tup_inv
  obtain ⟨a1, a2⟩ := he.ok x
  exact repr_of (PV.toP _ 60 a1 (by omega)) q
theorem op1_reprL {n : Nat} (he : EqE e n) (hn : n ≤ 58 := by decide) : Op1W gRepr (gL (gM e)) (fun xs => reprW (.list ((xs.map e).map PV.pd))) (gM eSt) := fun st xs ra f1 Q X h1 q => repr_of (gL_toP he hn h1) q
def eqStW (x y : Str) : W Bool := W.need (PyData.strOk x = true ∧ PyData.strOk y = true) (W.pure (decide (x = y)))
def neStW (x y : Str) : W Bool := W.need (PyData.strOk x = true ∧ PyData.strOk y = true) (W.pure (!decide (x = y)))
theorem op2_eqSt : Op2W gEq (gM eSt) (gM eSt) eqStW (gM eB) := fun st x y ra rb f1 f2 Q X h1 h2 ⟨c, q⟩ => by
  obtain ⟨rfl, _⟩ := h1.tup_inv
  obtain ⟨rfl, _⟩ := h2.tup_inv
  refine ⟨_, .v (.bl (decide (x = y))), q, ?_, .v (.im (.bl _))⟩
  have e1 : R.toP st 60 (.v (eSt x).d) = some (.str x) := PV.toP (st := st) (.str x) 60 c.1 (by simp [PV.dep])
  have e2 : R.toP st 60 (.v (eSt y).d) = some (.str y) := PV.toP (st := st) (.str y) 60 c.2 (by simp [PV.dep])
  unfold gEq
  simp only [e1, e2, PyData.eqv]
  by_cases h : x = y <;> simp [h]
theorem op2_neSt : Op2W gNe (gM eSt) (gM eSt) neStW (gM eB) := fun st x y ra rb f1 f2 Q X h1 h2 ⟨c, q⟩ => by
  obtain ⟨rfl, _⟩ := h1.tup_inv
  obtain ⟨rfl, _⟩ := h2.tup_inv
  refine ⟨_, .v (.bl (!decide (x = y))), q, ?_, .v (.im (.bl _))⟩
  have e1 : R.toP st 60 (.v (eSt x).d) = some (.str x) := PV.toP (st := st) (.str x) 60 c.1 (by simp [PV.dep])
  have e2 : R.toP st 60 (.v (eSt y).d) = some (.str y) := PV.toP (st := st) (.str y) 60 c.2 (by simp [PV.dep])
  unfold gNe
  simp only [e1, e2, PyData.eqv]
  by_cases h : x = y <;> simp [h]
end
end Fx

set_option Elab.async false
set_option linter.all false
set_option maxRecDepth 100000
set_option maxHeartbeats 4000000
set_option autoImplicit false
/-! Fx, part Zd: short words for the printer of typed readings. -/
namespace Fx
open PySem PySem.Spec PyProof.Rows L2
variable [BagAt]
section
variable {B : List O → Prop} {Γ : Sl} {f fa fb fc : FE} {α β γ τ : Type} {g : F2} {g1 : R → Store → Out R} {va : α → G} {vb : β → G} {ec : γ → PV} {e : α → PV}
/-- two that are just there -/
theorem wv_bin {op : α → β → γ} {a : α} {b : β} (hg : Op2W g va vb (fun a b => W.pure (op a b)) (gM ec)) (ha : WP Γ fa (W.pure a) va) (hb : WP Γ fb (W.pure b) vb) : WV Γ (fBin g fa fb) (ec (op a b)) := fun env st r => by
  obtain ⟨a', ra, f1, rfl, e1, o1⟩ := ha env st (fun x => a = x) (fun _ => False) r rfl
  obtain ⟨b', rb, f2, rfl, e2, o2⟩ := hb env st (fun x => b = x) (fun _ => False) r rfl
  obtain ⟨c, rc, q3, e3, o3⟩ := hg st a b ra rb f1 f2 (fun x => op a b = x) (fun _ => False) o1 o2 rfl
  subst q3
  obtain ⟨rfl, _⟩ := o3.tup_inv
  exact (ev_bin e1 e2).trans e3
theorem wv_un {op : α → γ} {a : α} (hg : Op1W g1 va (fun a => W.pure (op a)) (gM ec)) (ha : WP Γ fa (W.pure a) va) : WV Γ (fCall1 g1 fa) (ec (op a)) := fun env st r => by
  obtain ⟨a', ra, f1, rfl, e1, o1⟩ := ha env st (fun x => a = x) (fun _ => False) r rfl
  obtain ⟨c, rc, q3, e3, o3⟩ := hg st a ra f1 (fun x => op a = x) (fun _ => False) o1 rfl
  subst q3
  obtain ⟨rfl, _⟩ := o3.tup_inv
  exact (ev_call1 e1).trans e3
theorem wp_un1 {op1 : α → W γ} {vc : γ → G} {a : α} (hg : Op1W g1 va op1 vc) (ha : WP Γ fa (W.pure a) va) : WP Γ (fCall1 g1 fa) (op1 a) vc := wp_un (m := W.pure a) hg ha
theorem we_un1 {op1 : α → W γ} {vc : γ → G} {a : α} (hg : Op1W g1 va op1 vc) (ha : WP Γ fa (W.pure a) va) : WE B Γ (fCall1 g1 fa) (op1 a) vc (fun _ => Γ) := we_unP (m := W.pure a) hg ha
theorem wp_bin1 {op : α → β → W γ} {vc : γ → G} {a : α} {b : β} (hg : Op2R g va vb op vc) (ha : WP Γ fa (W.pure a) va) (hb : WP Γ fb (W.pure b) vb) : WP Γ (fBin g fa fb) (op a b) vc := wp_bin (m := W.pure a) (n := W.pure b) hg ha hb
theorem wp_map {m : W α} {v : α → G} {v' : β → G} {h : α → β} (w : WP Γ f m v) (hv : ∀ a, v' (h a) = v a) : WP Γ f (W.map h m) v' := fun env st Q X r q => by
  obtain ⟨a, rr, fv, h1, h2, h3⟩ := w env st _ X r q
  exact ⟨h a, rr, fv, h1, h2, by rw [hv]; exact h3⟩
theorem we_map {m : W α} {v : α → G} {v' : β → G} {h : α → β} {Γ' : Sl} (w : WE B Γ f m v fun _ => Γ') (hv : ∀ a, v' (h a) = v a) : WE B Γ f (W.map h m) v' (fun _ => Γ') := fun fr env st Q X r q => by
  refine (w fr env st _ X r q).mono (fun rr s ⟨a, fv, h1, h2, h3, h4⟩ => ?_) fun _ _ h => h
  exact ⟨h a, fv, h1, by rw [hv]; exact h2, h3, h4⟩
/-- if-expressions with something partial in them -/
theorem we_if {c : FB} {m : W Bool} {a b : W α} {v : α → G} (hc : WT B Γ c m) (ha : WE B Γ fa a v fun _ => Γ) (hb : WE B Γ fb b v fun _ => Γ) : WE B Γ (fIf c fa fb) (m.bind fun x => W.ite x a b) v (fun _ => Γ) := fun fr env st Q X r q => by
  unfold fIf
  refine (hc fr env st _ X r q).bind (fun x s ⟨h1, h2, h3⟩ => ?_) fun _ _ h => h
  cases x with
  | true => exact (ha fr env s Q X h2 h1).mono (fun rr s2 ⟨a, fv, k1, k2, k3, k4⟩ => ⟨a, fv, k1, k2, k3, h3.trans k4⟩) fun _ _ e => e.same h3
  | false => exact (hb fr env s Q X h2 h1).mono (fun rr s2 ⟨a, fv, k1, k2, k3, k4⟩ => ⟨a, fv, k1, k2, k3, h3.trans k4⟩) fun _ _ e => e.same h3
theorem wp_if {c : FB} {m : W Bool} {a b : W α} {v : α → G} (hc : WQ Γ c m) (ha : WP Γ fa a v) (hb : WP Γ fb b v) : WP Γ (fIf c fa fb) (m.bind fun x => W.ite x a b) v := fun env st Q X r q => by
  obtain ⟨x, h1, h2⟩ := hc env st _ X r q
  cases x with
  | true => obtain ⟨y, rr, fv, k1, k2, k3⟩ := ha env st Q X r h1; exact ⟨y, rr, fv, k1, by unfold fIf; rw [h2]; exact k2, k3⟩
  | false => obtain ⟨y, rr, fv, k1, k2, k3⟩ := hb env st Q X r h1; exact ⟨y, rr, fv, k1, by unfold fIf; rw [h2]; exact k2, k3⟩
theorem if_new {c : FB} (ha : ∀ env st s d, fa env st ≠ .ok (.v d) s) (hb : ∀ env st s d, fb env st ≠ .ok (.v d) s) : ∀ env st s d, fIf c fa fb env st ≠ .ok (.v d) s := fun env st s d h => by
  unfold fIf at h
  generalize c env st = o at h
  cases o with
  | stuck => cases h
  | exc x s => cases h
  | ok q s1 =>
    simp only [Out.bind_ok] at h
    split at h
    · exact ha _ _ _ _ h
    · exact hb _ _ _ _ h
/-- and, or with something partial in them, as values -/
theorem wp_andV {m n : W Bool} (h : WP Γ fa m (gM eB)) (k : WP Γ fb n (gM eB)) : WP Γ (fAndV fa fb) (m.bind fun x => W.ite x n (W.pure false)) (gM eB) := fun env st Q X r q => by
  obtain ⟨a, rr, fv, h1, h2, h3⟩ := h env st _ X r q
  obtain ⟨rfl, _⟩ := h3.tup_inv
  unfold fAndV
  rw [h2]
  cases a with
  | true => exact k env st Q X r h1
  | false => exact ⟨false, _, [], h1, rfl, .v (.im (.bl false))⟩
theorem wp_orV {m n : W Bool} (h : WP Γ fa m (gM eB)) (k : WP Γ fb n (gM eB)) : WP Γ (fOrV fa fb) (m.bind fun x => W.ite x (W.pure true) n) (gM eB) := fun env st Q X r q => by
  obtain ⟨a, rr, fv, h1, h2, h3⟩ := h env st _ X r q
  obtain ⟨rfl, _⟩ := h3.tup_inv
  unfold fOrV
  rw [h2]
  cases a with
  | false => exact k env st Q X r h1
  | true => exact ⟨true, _, [], h1, rfl, .v (.im (.bl true))⟩
theorem we_andV {m n : W Bool} (h : WE B Γ fa m (gM eB) fun _ => Γ) (k : WE B Γ fb n (gM eB) fun _ => Γ) : WE B Γ (fAndV fa fb) (m.bind fun x => W.ite x n (W.pure false)) (gM eB) (fun _ => Γ) := fun fr env st Q X r q => by
  unfold fAndV
  refine (h fr env st _ X r q).bind (fun rr s ⟨a, fv, h1, h2, h3, h4⟩ => ?_) fun _ _ h => h
  obtain ⟨rfl, rfl⟩ := h2.tup_inv
  cases a with
  | true => exact (k fr env s Q X h3 h1).mono (fun rr s2 ⟨a, fv, k1, k2, k3, k4⟩ => ⟨a, fv, k1, k2, k3, h4.trans k4⟩) fun _ _ e => e.same h4
  | false => exact ⟨false, [], h1, .v (.im (.bl false)), h3, h4⟩
theorem we_orV {m n : W Bool} (h : WE B Γ fa m (gM eB) fun _ => Γ) (k : WE B Γ fb n (gM eB) fun _ => Γ) : WE B Γ (fOrV fa fb) (m.bind fun x => W.ite x (W.pure true) n) (gM eB) (fun _ => Γ) := fun fr env st Q X r q => by
  unfold fOrV
  refine (h fr env st _ X r q).bind (fun rr s ⟨a, fv, h1, h2, h3, h4⟩ => ?_) fun _ _ h => h
  obtain ⟨rfl, rfl⟩ := h2.tup_inv
  cases a with
  | false => exact (k fr env s Q X h3 h1).mono (fun rr s2 ⟨a, fv, k1, k2, k3, k4⟩ => ⟨a, fv, k1, k2, k3, h4.trans k4⟩) fun _ _ e => e.same h4
  | true => exact ⟨true, [], h1, .v (.im (.bl true)), h3, h4⟩
/-- a call by names -/
theorem aown_at {env : Env} {st : Store} : ∀ {as : List Arg} {ds : List D} {fs : List Nat}, AOwn st env as ds fs → fs = [] → as.length = ds.length ∧ ∀ (i : Nat) (d : D), ds[i]? = some d → ∃ a, as[i]? = some a ∧ AOwn st env [a] [d] []
  | _, _, _, .nil, _ => ⟨rfl, fun i d h => by simp at h⟩
  | _, _, _, .own (f := f) (fs := fs) h t, e => by
    obtain ⟨rfl, rfl⟩ := List.append_eq_nil_iff.mp e
    obtain ⟨h1, h2⟩ := aown_at t rfl
    refine ⟨congrArg (· + 1) h1, fun i d hd => ?_⟩
    cases i with
    | zero => simp at hd; subst hd; exact ⟨_, rfl, .own (f := []) h .nil⟩
    | succ i => exact h2 i d (by simpa using hd)
  | _, _, _, .var h t, e => by
    obtain ⟨h1, h2⟩ := aown_at t e
    refine ⟨congrArg (· + 1) h1, fun i d hd => ?_⟩
    cases i with
    | zero => simp at hd; subst hd; exact ⟨_, rfl, .var h .nil⟩
    | succ i => exact h2 i d (by simpa using hd)
theorem aown_one {env : Env} {st : Store} {a : Arg} {d : D} {fs : List Nat} (h : AOwn st env [a] [d] fs) : (∃ g, a = .own g ∧ Own st g d fs) ∨ ∃ i, a = .var i ∧ env[i]? = some (some d) := by
  cases h with
  | own w t => cases t; left; exact ⟨_, rfl, by rw [List.append_nil]; exact w⟩
  | var w t => right; exact ⟨_, rfl, w⟩
theorem aown_pick {env : Env} {st : Store} {as : List Arg} {ds : List D} (h : AOwn st env as ds []) : ∀ ix : List Nat, AOwn st env (pick ix as) (pick ix ds) []
  | [] => .nil
  | i :: ix => by
    obtain ⟨h1, h2⟩ := aown_at h rfl
    have ih := aown_pick h ix
    unfold pick at ih ⊢
    rw [List.filterMap_cons, List.filterMap_cons]
    cases hd : ds[i]? with
    | none =>
      have : as[i]? = none := by rw [List.getElem?_eq_none_iff] at hd ⊢; omega
      rw [this]; exact ih
    | some d =>
      obtain ⟨a, ha, hw⟩ := h2 i d hd
      rw [ha]
      rcases aown_one hw with ⟨g, rfl, w⟩ | ⟨j, rfl, w⟩
      · exact .own (f := []) w ih
      · exact .var w ih
theorem we_callK {F : FF} {fg : FA} {ix : List Nat} {as : List Arg} {gs : List G} {Γ2 : Sl} {n : W β} {v : β → G} {post : β → List G} {Γ' : β → Sl}
    (ha : PA B Γ fg as) (hl : Lend Γ (pick ix as) gs Γ2) (hF : WF B F gs n v post) (hb : ∀ b, Back Γ Γ2 (pick ix as) (post b) (Γ' b)) (hd : ∀ b, SameDom (Γ' b) Γ) : WE B Γ (fCallK F ix fg) n v Γ' := fun fr env st Q X r q => by
  have ha' : PA B Γ (fun env st => (fg env st).bind fun ds s => .ok (pick ix ds) s) (pick ix as) := fun fr env st r => by
    obtain ⟨ds, h1, h2⟩ := ha fr env st r
    exact ⟨pick ix ds, by simp only [h1, Out.bind_ok], aown_pick h2 ix⟩
  have := we_callP ha' hl hF hb hd fr env st Q X r q
  unfold fCall at this
  unfold fCallK
  obtain ⟨ds, h1, h2⟩ := ha fr env st r
  simp only [h1, Out.bind_ok] at this ⊢
  exact this
end
section
variable {α : Type} [DecidableEq α] {e : α → PV} {m : Nat}
theorem op2_inS (he : EqE e m) (hm : m ≤ 59 := by decide) : Op2W gIn (gM e) (gM (eS e)) inW (gM eB) := fun st a xs ra rb f1 f2 Q X h1 h2 q => by
  obtain ⟨rfl, _⟩ := h1.tup_inv
  obtain ⟨rfl, _⟩ := h2.tup_inv
  refine ⟨_, .v (.bl (decide (a ∈ xs))), q, ?_, .v (.im (.bl _))⟩
  have : (eS e xs).d = .tup ((xs.map e).map PV.d) := by show PV.d (.tup _) = _; rw [PV.d, PV.ds_map]
  unfold gIn
  rw [this, in_tup he hm]
theorem op2_ninS (he : EqE e m) (hm : m ≤ 59 := by decide) : Op2W gNotIn (gM e) (gM (eS e)) ninW (gM eB) := fun st a xs ra rb f1 f2 Q X h1 h2 q => by
  obtain ⟨rfl, _⟩ := h1.tup_inv
  obtain ⟨rfl, _⟩ := h2.tup_inv
  refine ⟨_, .v (.bl (!decide (a ∈ xs))), q, ?_, .v (.im (.bl _))⟩
  have : (eS e xs).d = .tup ((xs.map e).map PV.d) := by show PV.d (.tup _) = _; rw [PV.d, PV.ds_map]
  unfold gNotIn
  rw [this, in_tup he hm]
def eqEW (a b : α) : W Bool := W.pure (decide (a = b))
def neEW (a b : α) : W Bool := W.pure (!decide (a = b))
theorem op2_eqE (he : EqE e m) (hm : m ≤ 60 := by decide) : Op2W gEq (gM e) (gM e) eqEW (gM eB) := fun st a b ra rb f1 f2 Q X h1 h2 q => by
  obtain ⟨rfl, _⟩ := h1.tup_inv
  obtain ⟨rfl, _⟩ := h2.tup_inv
  obtain ⟨a1, a2⟩ := he.ok a
  obtain ⟨b1, b2⟩ := he.ok b
  refine ⟨_, .v (.bl (decide (a = b))), q, ?_, .v (.im (.bl _))⟩
  have e1 : R.toP st 60 (.v (e a).d) = some (e a).pd := PV.toP _ 60 a1 (by omega)
  have e2 : R.toP st 60 (.v (e b).d) = some (e b).pd := PV.toP _ 60 b1 (by omega)
  unfold gEq
  simp only [e1, e2, he.eq]
theorem op2_neE (he : EqE e m) (hm : m ≤ 60 := by decide) : Op2W gNe (gM e) (gM e) neEW (gM eB) := fun st a b ra rb f1 f2 Q X h1 h2 q => by
  obtain ⟨rfl, _⟩ := h1.tup_inv
  obtain ⟨rfl, _⟩ := h2.tup_inv
  obtain ⟨a1, a2⟩ := he.ok a
  obtain ⟨b1, b2⟩ := he.ok b
  refine ⟨_, .v (.bl (!decide (a = b))), q, ?_, .v (.im (.bl _))⟩
  have e1 : R.toP st 60 (.v (e a).d) = some (e a).pd := PV.toP _ 60 a1 (by omega)
  have e2 : R.toP st 60 (.v (e b).d) = some (e b).pd := PV.toP _ 60 b1 (by omega)
  unfold gNe
  simp only [e1, e2, he.eq]
end
namespace W
variable {τ α : Type}
def opt (o : Option τ) (m : W α) (k : τ → W α) : W α := match o with
  | Option.none => m
  | Option.some a => k a
end W
section
variable {B : List O → Prop} {Γ : Sl} {f : FE} {α β τ ε : Type} {xs : List τ} {v : τ → G} {e : τ → PV} {s t sa sb : FS} {c : FB}
theorem wv_lenP {ps : List PV} (h : WV Γ f (.tup ps)) : WV Γ (fCall1 gLen f) (.int (ps.length : Int)) := fun env st r => by
  rw [ev_call1 (h env st r)]
  show gLen (.v (.tup (PV.ds ps))) st = _
  simp [gLen, PV.ds_map, PV.d]
/-- an if whose test is known -/
theorem ws_ifT {a : W ε} {J : ε → Fin} (hc : WB Γ c true) (ha : WS B Γ sa a J) : WS B Γ (fIfS c sa sb) a J := fun fr env st Q X r q => by
  unfold fIfS; rw [hc env st r.rd]; exact ha fr env st Q X r q
theorem ws_ifF {a : W ε} {J : ε → Fin} (hc : WB Γ c false) (ha : WS B Γ sb a J) : WS B Γ (fIfS c sa sb) a J := fun fr env st Q X r q => by
  unfold fIfS; rw [hc env st r.rd]; exact ha fr env st Q X r q
theorem ws_ifTs {a : W ε} {J : ε → Fin} (hc : WB Γ c true) (ha : WS B Γ (fSeq sa t) a J) : WS B Γ (fSeq (fIfS c sa sb) t) a J := fun fr env st Q X r q => by
  unfold fSeq fIfS; rw [hc env st r.rd]; exact ha fr env st Q X r q
theorem ws_ifFs {a : W ε} {J : ε → Fin} (hc : WB Γ c false) (ha : WS B Γ (fSeq sb t) a J) : WS B Γ (fSeq (fIfS c sa sb) t) a J := fun fr env st Q X r q => by
  unfold fSeq fIfS; rw [hc env st r.rd]; exact ha fr env st Q X r q
/-- a text that never goes on has no use for what stands behind -/
theorem ws_seqX {a : W ε} {J : ε → Fin} (h : WS B Γ s a J) (hn : ∀ x Γ', J x ≠ .nx Γ') : WS B Γ (fSeq s t) a J := fun fr env st Q X r q => by
  have := h fr env st Q X r q
  unfold fSeq
  generalize s env st = o at this
  cases o with
  | next e s1 => obtain ⟨a, Γ1, _, h2, _⟩ := this; exact absurd h2 (hn _ _)
  | ret r s1 => exact this
  | brk e s1 => exact this
  | cont e s1 => exact this
  | exc x e s1 => exact this
  | stuck => exact this
theorem wv_ifT {fa fb : FE} {p : PV} (hc : WB Γ c true) (ha : WV Γ fa p) : WV Γ (fIf c fa fb) p := fun env st r => by unfold fIf; rw [hc env st r]; exact ha env st r
theorem wv_ifF {fa fb : FE} {p : PV} (hc : WB Γ c false) (hb : WV Γ fb p) : WV Γ (fIf c fa fb) p := fun env st r => by unfold fIf; rw [hc env st r]; exact hb env st r
theorem wp_ifT {fa fb : FE} {m : W α} {v : α → G} (hc : WB Γ c true) (ha : WP Γ fa m v) : WP Γ (fIf c fa fb) m v := fun env st Q X r q => by
  obtain ⟨a, rr, fv, h1, h2, h3⟩ := ha env st Q X r q
  exact ⟨a, rr, fv, h1, by unfold fIf; rw [hc env st r]; exact h2, h3⟩
theorem wp_ifF {fa fb : FE} {m : W α} {v : α → G} (hc : WB Γ c false) (ha : WP Γ fb m v) : WP Γ (fIf c fa fb) m v := fun env st Q X r q => by
  obtain ⟨a, rr, fv, h1, h2, h3⟩ := ha env st Q X r q
  exact ⟨a, rr, fv, h1, by unfold fIf; rw [hc env st r]; exact h2, h3⟩
theorem we_ifT {fa fb : FE} {m : W α} {v : α → G} {Γ' : α → Sl} (hc : WB Γ c true) (ha : WE B Γ fa m v Γ') : WE B Γ (fIf c fa fb) m v Γ' := fun fr env st Q X r q => by unfold fIf; rw [hc env st r.rd]; exact ha fr env st Q X r q
theorem we_ifF {fa fb : FE} {m : W α} {v : α → G} {Γ' : α → Sl} (hc : WB Γ c false) (ha : WE B Γ fb m v Γ') : WE B Γ (fIf c fa fb) m v Γ' := fun fr env st Q X r q => by unfold fIf; rw [hc env st r.rd]; exact ha fr env st Q X r q
theorem wb_and1 {c1 c2 : FB} (h : WB Γ c1 false) : WB Γ (fAnd c1 c2) false := fun env st r => by rw [ev_and (h env st r)]; rfl
theorem wb_and2 {c1 c2 : FB} {y : Bool} (h : WB Γ c1 true) (k : WB Γ c2 y) : WB Γ (fAnd c1 c2) y := fun env st r => by rw [ev_and (h env st r), if_pos rfl]; exact k env st r
theorem wb_or1 {c1 c2 : FB} (h : WB Γ c1 true) : WB Γ (fOr c1 c2) true := fun env st r => by rw [ev_or (h env st r)]; rfl
theorem wb_or2 {c1 c2 : FB} {y : Bool} (h : WB Γ c1 false) (k : WB Γ c2 y) : WB Γ (fOr c1 c2) y := fun env st r => by rw [ev_or (h env st r)]; exact k env st r
theorem wq_and2 {c1 c2 : FB} {m : W Bool} (h : WB Γ c1 true) (k : WQ Γ c2 m) : WQ Γ (fAnd c1 c2) m := fun env st Q X r q => by
  obtain ⟨b, h1, h2⟩ := k env st Q X r q
  exact ⟨b, h1, by rw [ev_and (h env st r), if_pos rfl]; exact h2⟩
theorem wb_isN {i : Nat} {o : Option Nat} (h : Γ[i]? = some (some (o, .im .non))) : WB Γ (fTrue (fBin gIsN (fName i) (fC .non))) true := wb_v (wv_isNX (wv_name h))
theorem wb_isS {i : Nat} {o : Option Nat} {a : α} {e : α → PV} (hn : NnE e) (h : Γ[i]? = some (some (o, .im (e a)))) : WB Γ (fTrue (fBin gIsN (fName i) (fC .non))) false := wb_v (wv_isN (o := some a) hn (wv_name h))
theorem wb_notN {i : Nat} {o : Option Nat} (h : Γ[i]? = some (some (o, .im .non))) : WB Γ (fTrue (fBin gNotN (fName i) (fC .non))) false := wb_v (wv_notNX (wv_name h))
theorem wb_notS {i : Nat} {o : Option Nat} {a : α} {e : α → PV} (hn : NnE e) (h : Γ[i]? = some (some (o, .im (e a)))) : WB Γ (fTrue (fBin gNotN (fName i) (fC .non))) true := wb_v (wv_notN (o := some a) hn (wv_name h))
/-- enumerate, zip -/
def enumFrom {τ : Type} : Nat → List τ → List (Int × τ)
  | _, [] => []
  | i, x :: xs => ((i : Int), x) :: enumFrom (i + 1) xs
theorem enumD_map (e : τ → PV) : ∀ (i : Nat) (xs : List τ), enumD i (xs.map fun x => (e x).d) = (enumFrom i xs).map fun p => (eP eI e p).d
  | _, [] => rfl
  | i, x :: xs => by
    rw [List.map_cons, enumD, enumD_map e (i + 1) xs]; rfl
theorem wip_enumS {m : W (List τ)} (h : WP Γ f m (gM (eS e))) : WIp Γ (fEnum (fCons f fNil)) (m.bind fun xs => W.pure (enumFrom 0 xs)) (gM (eP eI e)) := fun env st Q X r q => by
  obtain ⟨xs, rr, fv, h1, h2, h3⟩ := h env st _ X r q
  obtain ⟨rfl, rfl⟩ := h3.tup_inv
  refine ⟨_, ⟨enumD 0 (xs.map fun x => (e x).d), Sq.any⟩, [], h1, ?_, by rw [enumD_map]; exact Owns.pv _ _, trivial⟩
  unfold fEnum
  rw [ev_consV h2 ev_nil, eS_d]; rfl
/-- enumerate of a name's list, its items to be looked at -/
theorem owns_enum {st : Store} : ∀ {xs : List τ} {ds : List D} {f : List Nat} (i : Nat), Owns st (xs.map v) ds f → Owns st ((enumFrom i xs).map fun p => .tp [.im (.int p.1), v p.2]) (enumD i ds) f
  | [], _, _, i, h => by cases h; exact .nil
  | x :: xs, _, _, i, .cons h t => by
    refine .cons ?_ (owns_enum (i + 1) t)
    have := Owns.cons (f := []) (Own.im (st := st) (.int (i : Int))) (.cons h .nil)
    rw [List.nil_append, List.append_nil] at this
    exact .tp this
theorem wip_enumL {i : Nat} {o : Option Nat} (h : Γ[i]? = some (some (o, gL v xs))) : WIp Γ (fEnum (fCons (fName i) fNil)) (W.pure (enumFrom 0 xs)) (fun p => .tp [.im (.int p.1), v p.2]) := fun env st Q X r q => by
  obtain ⟨d, f0, h1, h2⟩ := r.get _ _ _ h
  obtain ⟨n, ds, f', rfl, k1, k2, rfl⟩ := h2.lst_inv
  refine ⟨_, ⟨enumD 0 ds, Sq.at n ds⟩, f', q, ?_, owns_enum 0 k2, k1⟩
  unfold fEnum
  rw [ev_consV (ev_name h1) ev_nil]
  simp only [Out.bind_ok, side, k1]
theorem enum_any {g : FA} : ∀ env st q s, fEnum g env st = .ok q s → (∀ d st', g env st = .ok [d] st' → ∃ xs, d = .tup xs) → ∀ s', q.ok s' := fun env st q s h hk s' => by
  unfold fEnum at h
  generalize hg : g env st = o at h
  cases o with
  | stuck => cases h
  | exc x s => cases h
  | ok ds s1 =>
    simp only [Out.bind_ok] at h
    split at h
    · rename_i d
      obtain ⟨xs, rfl⟩ := hk d s1 hg
      simp only [side] at h
      cases h
      exact trivial
    · cases h
theorem wi_enumS {ys : List τ} (h : WV Γ f (eS e ys)) : WI B Γ (fEnum (fCons f fNil)) (W.pure (enumFrom 0 ys)) (fun xs => xs) (eP eI e) (fun _ => Γ) := fun fr env st Q X r q => by
  have e1 : fEnum (fCons f fNil) env st = .ok ⟨enumD 0 (ys.map fun x => (e x).d), Sq.any⟩ st := by
    unfold fEnum
    rw [ev_consV (h env st r.rd) ev_nil, eS_d]; rfl
  rw [e1]
  exact ⟨_, q, enumD_map e 0 ys, fun _ => trivial, r, .refl⟩
theorem we_slL {m : W (List τ)} {lo hi : FO} {l u : Option Int} (h : WE B Γ f m (gL (gM e)) fun _ => Γ) (hl : WVo Γ lo l) (hu : WVo Γ hi u) : WE B Γ (fSl f lo hi) (m.bind fun xs => W.pure (cutL xs l u)) (gL (gM e)) (fun _ => Γ) := fun fr env st Q X r q => by
  unfold fSl
  refine (h fr env st _ X r q).bind (fun rr s ⟨xs, fv, k1, k2, k3, k4⟩ => ?_) fun _ _ h => h
  rw [hl env s k3.rd]; simp only [Out.bind_ok]
  rw [hu env s k3.rd]; simp only [Out.bind_ok]
  rcases gL_casesP k2 with ⟨n, rfl, hn⟩ | rfl
  · simp only [slc, seqL, hn, cutD_map]
    exact ⟨_, [], k1, .o (.lst (Owns.pv e _)), k3.weak, k4⟩
  · simp only [slc, seqL, cutD_map]
    exact ⟨_, [], k1, .o (.lst (Owns.pv e _)), k3.weak, k4⟩
theorem wi_tS {ys : List τ} (h : WV Γ f (eS e ys)) : WI B Γ (fIt f) (W.pure ys) (fun xs => xs) e (fun _ => Γ) := wi_t (we_pm (wp_pure (e := eS e) h))
theorem wi_rng1' {m : W Int} (h : WP Γ f m (gM .int)) : WI B Γ (fRng1 f) (m.bind rng1) (fun xs => xs) .int (fun _ => Γ) := wi_rng1 (we_pm h)
theorem wi_rng2' {_fb : FE} {m n : W Int} (h : WP Γ f m (gM .int)) (h' : WP Γ _fb n (gM .int)) : WI B Γ (fRng2 f _fb) (m.bind fun i => n.bind fun j => rng2 i j) (fun xs => xs) .int (fun _ => Γ) := fun fr env st Q X r q => by
  obtain ⟨i, ra, fa, q1, e1, o1⟩ := h env st _ X r.rd q
  obtain ⟨j, rb, fb, ⟨c, q2⟩, e2, o2⟩ := h' env st _ X r.rd q1
  obtain ⟨rfl, rfl⟩ := o1.tup_inv
  obtain ⟨rfl, rfl⟩ := o2.tup_inv
  have e3 : fRng2 f _fb env st = .ok ⟨rngD i (j - i).toNat, Sq.any⟩ st := by
    unfold fRng2
    rw [e1]
    simp only [Out.bind_ok]
    rw [e2]
    show (if _ then _ else _) = _
    rw [if_pos c]
  rw [e3]
  exact ⟨_, q2, rngP_d _ _, fun _ => trivial, r, .refl⟩
end
end Fx

set_option Elab.async false
set_option linter.all false
set_option maxRecDepth 100000
set_option maxHeartbeats 4000000
set_option autoImplicit false
/-! Fx, part Zh: lists of lists and None; adding in place; sorts, sets, places, bits. -/
namespace Fx
open PySem PySem.Spec PyProof.Rows L2
variable [BagAt]
/-- None, or a list of its own -/
def gOL {τ : Type} (e : τ → PV) : Option (List τ) → G
  | none => .im .non
  | some xs => gL (gM e) xs
def ixMap {τ : Type} (xs : List τ) (k : Int) (h : τ → τ) : Option (List τ) := (ixN xs.length k).bind fun j => xs[j]?.map fun a => xs.set j (h a)
section
variable {B : List O → Prop} {Γ : Sl} {f fi fa : FE} {α β τ σ ρ : Type} {e : τ → PV} {i k : Nat} {o : Option Nat}
theorem wp_unO {m : W (Option (List τ))} (h : WP Γ f m (gOL e)) : WP Γ f (m.bind W.ofO) (gL (gM e)) := fun env st Q X r q => by
  obtain ⟨a, rr, fv, ⟨xs, e1, q1⟩, h2, h3⟩ := h env st _ X r q
  subst e1
  exact ⟨xs, rr, fv, q1, h2, h3⟩
theorem wp_isNO {m : W (Option (List τ))} (h : WP Γ f m (gOL e)) : WP Γ (fBin gIsN f (fC .non)) (m.bind fun o => W.pure o.isNone) (gM eB) := fun env st Q X r q => by
  obtain ⟨a, rr, fv, q1, h2, h3⟩ := h env st _ X r q
  refine ⟨_, .v (.bl a.isNone), [], q1, ?_, .v (.im (.bl _))⟩
  rw [ev_bin h2 rfl]
  cases a with
  | none => obtain ⟨rfl, _⟩ := ROwn.tup_inv h3; rfl
  | some xs =>
    rcases gL_casesP h3 with ⟨n, rfl, _⟩ | rfl <;> rfl
theorem wp_notNO {m : W (Option (List τ))} (h : WP Γ f m (gOL e)) : WP Γ (fBin gNotN f (fC .non)) (m.bind fun o => W.pure o.isSome) (gM eB) := fun env st Q X r q => by
  obtain ⟨a, rr, fv, q1, h2, h3⟩ := h env st _ X r q
  refine ⟨_, .v (.bl a.isSome), [], q1, ?_, .v (.im (.bl _))⟩
  rw [ev_bin h2 rfl]
  cases a with
  | none => obtain ⟨rfl, _⟩ := ROwn.tup_inv h3; rfl
  | some xs =>
    rcases gL_casesP h3 with ⟨n, rfl, _⟩ | rfl <;> rfl
/-- a slot set aside -/
theorem Rel.aside {fr : List Nat} {env : Env} {st : Store} {g : G} (r : Rel B Γ fr env st) (h : Γ[k]? = some (some (o, g))) : ∃ d f, env[k]? = some (some d) ∧ Own st g d f ∧ Rel B (Γ.set k none) (f ++ fr) env st ∧
    ∀ (Γ1 : Sl) (env1 : Env) (s : Store) (fr' : List Nat), Γ1.length = Γ.length → (∀ n ∈ f, s[n]? = st[n]?) → env1[k]? = some (some d) → Rel B Γ1 (f ++ fr') env1 s → Rel B (Γ1.set k (some (o, g))) fr' env1 s := by
  obtain ⟨d, f, h1, h2, h3, h4⟩ := r.take h
  refine ⟨d, f, h1, h2, h4, fun Γ1 env1 s fr' hl hk he r1 => ?_⟩
  exact r1.back (by rw [hl]; exact (List.getElem?_eq_some_iff.mp h).1) he (h2.keep hk) h3

/-! ### adding in place -/
theorem ws_aug {m : W Int} {x : Int} {op : Int → Int → Int} (h0 : Γ[i]? = some (some (o, .im (.int x)))) (h : WP Γ f m (gM eI)) : WS B Γ (fAug op i f) (m.bind fun y => W.pure (op x y)) (fun z => .nx (Γ.set i (sg (.im (.int z))))) := fun fr env st Q X r q => by
  obtain ⟨y, rr, fv, q1, h2, h3⟩ := h env st _ X r.rd q
  obtain ⟨rfl, _⟩ := h3.tup_inv
  obtain ⟨d, f', k1, k2, _⟩ := r.read h0
  obtain ⟨rfl, rfl⟩ := k2.im_inv
  unfold fAug
  rw [show env[i]? = some (some (.int x)) from k1]
  simp only [h2, Out.thenS]
  exact ⟨_, _, q1, rfl, Rel.assign (f := []) (o := none) r (List.getElem?_eq_some_iff.mp h0).1 (.im (.int (op x y))) (fun n e => nomatch e), .refl⟩
def augW (op : Int → Int → Int) (xs : List Int) (j y : Int) : W (List Int) := W.ofO (ixMap xs j fun x => op x y)
theorem ws_augS {m n : W Int} {xs : List Int} {op : Int → Int → Int} (h0 : Γ[i]? = some (some (o, gL (gM eI) xs))) (hi : WP Γ fi m (gM eI)) (h : WP Γ f n (gM eI)) : WS B Γ (fAugS op (fName i) fi f) (m.bind fun j => n.bind fun y => augW op xs j y) (fun ys => .nx (Γ.set i (some (o, gL (gM eI) ys)))) := fun fr env st Q X r q => by
  obtain ⟨j, r1, f1, q1, a1, b1⟩ := hi env st _ X r.rd q
  obtain ⟨y, r2, f2, ⟨ys, q2, q3⟩, a2, b2⟩ := h env st _ X r.rd q1
  obtain ⟨rfl, _⟩ := b1.tup_inv
  obtain ⟨rfl, _⟩ := b2.tup_inv
  obtain ⟨n', x0, f3, u1, u2, u3, u4⟩ := Rel.upd (fv := []) r h0 (.lst _)
  cases u3 with
  | lst u3 =>
    obtain ⟨rfl, rfl⟩ := Owns.pv_inv u3
    unfold ixMap at q2
    cases hj : ixN xs.length j with
    | none => rw [hj] at q2; cases q2
    | some p =>
      rw [hj, Option.bind_some] at q2
      cases hp : xs[p]? with
      | none => rw [hp] at q2; cases q2
      | some x =>
        rw [hp] at q2
        cases q2
        have a1' : fi env st = .ok (.v (.int j)) st := a1
        have a2' : f env st = .ok (.v (.int y)) st := a2
        have e1 : atI (xs.map fun x => (eI x).d) j = some (.int x) := by
          unfold atI
          rw [List.length_map, hj]
          show (xs.map _)[p]? = _
          rw [List.getElem?_map, hp]; rfl
        have e2 : putAt (.v (.ref n')) (.v (.int j)) (.int (op x y)) st = some (st.set n' (.lst ((xs.set p (op x y)).map fun x => (eI x).d))) := by
          unfold putAt
          simp only [u2, List.length_map, hj, Option.map_some, List.map_set]
          rfl
        unfold fAugS
        rw [ev_name u1]
        simp only [Out.thenS, a1', lstAt, u2, e1, a2', e2]
        obtain ⟨w1, w2, _⟩ := u4 (.lst ((xs.set p (op x y)).map fun x => (eI x).d)) (gL (gM eI) (xs.set p (op x y))) [] [] [] (show Bls _ _ from Bls.of fun d hd => by
          obtain ⟨x, _, rfl⟩ := List.mem_map.mp hd; exact (eI x).blw) (by simp) (.lst (Owns.pv eI _))
        exact ⟨_, _, q3, rfl, w1, w2⟩

/-! ### writing in lists of lists -/
theorem owns_split {st : Store} {v : β → G} : ∀ {xs : List β} {ds : List D} {f : List Nat} {j : Nat} {x : β}, Owns st (xs.map v) ds f → xs[j]? = some x → ∃ d fx fo, ds[j]? = some d ∧ Own st (v x) d fx ∧ f.Perm (fx ++ fo) ∧
    ∀ (s : Store) (y : β) (d' : D) (fy : List Nat), (∀ n ∈ fo, s[n]? = st[n]?) → Own s (v y) d' fy → ∃ f', Owns s ((xs.set j y).map v) (ds.set j d') f' ∧ f'.Perm (fy ++ fo)
  | [], _, _, j, x, _, h => by simp at h
  | x0 :: xs, _, _, 0, x, .cons (f := f0) (fs := fs) h t, hx => by
    simp at hx; subst hx
    exact ⟨_, f0, fs, rfl, h, List.Perm.refl _, fun s y d' fy k w => ⟨_, .cons w (t.keep k), List.Perm.refl _⟩⟩
  | x0 :: xs, _, _, j + 1, x, .cons (f := f0) h t, hx => by
    obtain ⟨d, fx, fo, k1, k2, k3, k4⟩ := owns_split (j := j) t (by simpa using hx)
    refine ⟨d, fx, f0 ++ fo, by simpa using k1, k2, (k3.append_left f0).trans (perm_sw f0 fx fo), fun s y d' fy k w => ?_⟩
    obtain ⟨f', a, b⟩ := k4 s y d' fy (fun n hn => k n (List.mem_append_right _ hn)) w
    exact ⟨f0 ++ f', .cons (h.keep fun n hn => k n (List.mem_append_left _ hn)) a, (b.append_left f0).trans (perm_sw f0 fy fo)⟩
/-- xs[j] = None -/
def noneAt (xs : List (Option (List τ))) (j : Int) : W (List (Option (List τ))) := W.ofO ((ixN xs.length j).map fun p => xs.set p none)
theorem ws_putN {m : W Int} {xs : List (Option (List τ))} (h0 : Γ[i]? = some (some (o, gL (gOL e) xs))) (hi : WP Γ fi m (gM eI)) : WS B Γ (fPut (fC .non) (fName i) fi) (m.bind fun j => noneAt xs j) (fun ys => .nx (Γ.set i (some (o, gL (gOL e) ys)))) := fun fr env st Q X r q => by
  obtain ⟨j, r1, f1, ⟨ys, q2, q3⟩, a1, b1⟩ := hi env st _ X r.rd q
  obtain ⟨rfl, _⟩ := b1.tup_inv
  obtain ⟨n', x0, f3, u1, u2, u3, u4⟩ := Rel.upd (fv := []) r h0 (.lst _)
  cases u3 with
  | lst u3 =>
    rename_i ds
    have hlen := u3.length
    simp only [List.length_map] at hlen
    cases hj : ixN xs.length j with
    | none => rw [hj] at q2; cases q2
    | some p =>
      rw [hj] at q2
      cases q2
      have hp : p < xs.length := (ixN_seq hj).2.1
      obtain ⟨d, fx, fo, k1, k2, k3, k4⟩ := owns_split u3 (List.getElem?_eq_getElem hp)
      unfold fPut
      show SP B fr st _ Q X ((Out.ok (R.v D.non) st).thenS env _)
      simp only [Out.thenS, alloc_v]
      rw [ev_name u1]
      simp only [a1]
      show SP B fr st _ Q X (match putAt (.v (.ref n')) (.v (.int j)) D.non st with
        | some st4 => _
        | none => _)
      have e2 : putAt (.v (.ref n')) (.v (.int j)) D.non st = some (st.set n' (.lst (ds.set p .non))) := by
        unfold putAt
        simp only [u2, ← hlen, hj, Option.map_some]
      rw [e2]
      obtain ⟨f', w1, w2⟩ := k4 st none .non [] (fun _ _ => rfl) (.im .non)
      have bl : Bls st.length (ds.set p .non) := (w1.lt r.two).1
      obtain ⟨z1, z2, _⟩ := u4 (.lst (ds.set p .non)) (gL (gOL e) (xs.set p none)) f' [] fx bl (by
        rw [List.append_nil, List.nil_append]
        exact (k3.trans List.perm_append_comm).trans ((by simpa using w2.symm : fo.Perm f').append_right fx)) (.lst w1)
      exact ⟨_, _, q3, rfl, z1, z2⟩
/-- xs[j].extend(ys) -/
def extAt (xs : List (Option (List τ))) (j : Int) (ys : List τ) : W (List (Option (List τ))) := W.bind (atW xs j) fun o => W.bind (W.ofO o) fun zs => W.need (zs.length + ys.length ≤ 1000000) (W.ofO ((ixN xs.length j).map fun p => xs.set p (some (zs ++ ys))))
theorem ws_extAt {m : W Int} {n : W (List τ)} {xs : List (Option (List τ))} (h0 : Γ[i]? = some (some (o, gL (gOL e) xs))) (hi : WP Γ fi m (gM eI)) (ha : WP Γ fa n (gL (gM e))) : WS B Γ (fExpr (fMeth1 gExtend (fBin gIx (fName i) fi) fa)) (m.bind fun j => n.bind fun ys => extAt xs j ys) (fun ys => .nx (Γ.set i (some (o, gL (gOL e) ys)))) := fun fr env st Q X r q => by
  obtain ⟨j, r1, f1, q1, a1, b1⟩ := hi env st _ X r.rd q
  obtain ⟨ys, r2, f2, ⟨oo, hoo, zs, rfl, c, xs', q2, q3⟩, a2, b2⟩ := ha env st _ X r.rd q1
  obtain ⟨rfl, _⟩ := b1.tup_inv
  obtain ⟨n', x0, f3, u1, u2, u3, u4⟩ := Rel.upd (fv := []) r h0 (.lst _)
  cases u3 with
  | lst u3 =>
    rename_i ds
    have hlen := u3.length
    simp only [List.length_map] at hlen
    cases hj : ixN xs.length j with
    | none => rw [hj] at q2; cases q2
    | some p =>
      rw [hj] at q2
      cases q2
      have hp : xs[p]? = some (some zs) := by
        unfold atI at hoo
        rw [hj] at hoo; exact hoo
      obtain ⟨d, fx, fo, k1, k2, k3, k4⟩ := owns_split u3 hp
      obtain ⟨n2, ds2, f4, rfl, v1, v2, rfl⟩ := Own.lst_inv k2
      obtain ⟨rfl, rfl⟩ := Owns.pv_inv v2
      have hidx : (fBin gIx (fName i) fi) env st = .ok (.v (.ref n2)) st := by
        rw [ev_bin (ev_name u1) a1]
        have : idx st (.v (.ref n')) (.v (PV.int j).d) = some (.ref n2) := by
          refine (idx_lst j (.inl ⟨n', rfl, u2⟩)).trans ?_
          unfold atI
          rw [← hlen, hj]; exact k1
        unfold gIx
        rw [show idx st (.v (.ref n')) (.v (eI j).d) = some (.ref n2) from this]
      have hr2 := gL_pv b2
      unfold fExpr fMeth1
      rw [hidx]
      simp only [Out.bind_ok, seqL_ref v1, a2]
      have e2 : gExtend (.v (.ref n2)) r2 st = .ok (.v .non) (st.set n2 (.lst ((zs ++ ys).map fun x => (e x).d))) := by
        unfold gExtend
        simp only [lstAt, v1, hr2.2.1, List.length_map]
        rw [if_pos c, List.map_append]
      rw [e2]
      simp only [Out.thenS]
      -- the inner list is written: n2 is among what the slot owns
      obtain ⟨dd, ff, t1, t2, t3, fs, t4, t5⟩ := r.take h0
      rw [u1] at t1; cases t1
      obtain ⟨n9, ds9, f9, z1, z2, z3, rfl⟩ := t2.lst_inv
      cases z1
      rw [u2] at z2; cases z2
      obtain ⟨d', fx', fo', k1', k2', k3', k4'⟩ := owns_split z3 hp
      rw [k1] at k1'; cases k1'
      obtain ⟨n8, ds8, f8, y1, y2, y3, rfl⟩ := Own.lst_inv k2'
      cases y1
      have v1' := v1
      rw [y2] at v1'; cases v1'
      obtain ⟨_, rfl⟩ := Owns.pv_inv y3
      -- all that is held: fs ++ ((n' :: f9) ++ fr), f9 ~ n2 :: fo'
      have pall : (fs ++ ((n' :: f9) ++ fr)).Perm (n2 :: (n' :: (fo' ++ (fs ++ fr)))) := by
        refine (perm_sw fs (n' :: f9) fr).trans ?_
        show (n' :: (f9 ++ (fs ++ fr))).Perm _
        refine List.Perm.trans ?_ (List.Perm.swap n2 n' _)
        exact (k3'.append_right (fs ++ fr)).cons n'
      have hk := t5.perm pall
      have nn := (List.nodup_cons.mp hk.nd).1
      have h2 : BagAt.m ≤ n2 := (hk.bd n2 (by simp)).1
      have nf : ∀ m, m ∈ n' :: (fo' ++ (fs ++ fr)) → (st.set n2 (O.lst ((zs ++ ys).map fun x => (e x).d)))[m]? = st[m]? := fun m hm => List.getElem?_set_ne (fun z => nn (by rw [z]; exact hm))
      have hl2 : n2 < st.length := (List.getElem?_eq_some_iff.mp v1).1
      have hbl : OBl st.length (O.lst ((zs ++ ys).map fun x => (e x).d)) := show Bls _ _ from Bls.of fun d hd => by
        obtain ⟨x, _, rfl⟩ := List.mem_map.mp hd; exact (e x).blw
      have hk2 := hk.set h2 hbl
      obtain ⟨f', w1, w2⟩ := k4' (st.set n2 (O.lst ((zs ++ ys).map fun x => (e x).d))) (some (zs ++ ys)) (.ref n2) [n2] (fun m hm => nf m (by simp [hm])) (.obj (List.getElem?_set_self hl2) (.lst (Owns.pv e (zs ++ ys))))
      have hsame : ds.set p (.ref n2) = ds := set_same k1
      rw [hsame] at w1
      have wo : Own (st.set n2 (O.lst ((zs ++ ys).map fun x => (e x).d))) (gL (gOL e) (xs.set p (some (zs ++ ys)))) (.ref n') (n' :: f') := .obj ((nf n' (by simp)).trans u2) (.lst w1)
      have rr : Rel B (Γ.set i none) ((n' :: f') ++ fr) env (st.set n2 (O.lst ((zs ++ ys).map fun x => (e x).d))) := by
        refine ⟨fs, t4.keep fun m hm => nf m (by simp [hm]), hk2.perm ?_⟩
        refine List.Perm.trans ?_ (perm_sw (n' :: f') fs fr)
        refine (List.Perm.swap n' n2 _).trans ?_
        show (n' :: (n2 :: (fo' ++ (fs ++ fr)))).Perm (n' :: (f' ++ (fs ++ fr)))
        exact ((w2.symm.append_right (fs ++ fr)).cons n')
      have il : i < (Γ.set i none).length := by simp; exact (List.getElem?_eq_some_iff.mp h0).1
      have rb := rr.back (o := o) il u1 wo t3
      rw [List.set_set] at rb
      exact ⟨_, _, q3, rfl, rb, keep_set (fun z => nn (by simp [z]))⟩
end
end Fx

set_option Elab.async false
set_option linter.all false
set_option maxRecDepth 100000
set_option maxHeartbeats 4000000
set_option autoImplicit false
/-! Fx, part Zi: loops over lists within lists; sorts, sets, places, bits; draws. -/
namespace Fx
open PySem PySem.Spec PyProof.Rows L2
variable [BagAt]
section
variable {B : List O → Prop} {Γ : Sl} {f fi fa fb : FE} {tg : FG} {body : FS} {α β τ σ ρ : Type} {e : τ → PV} {i k : Nat} {o : Option Nat}
def pinsOf (ds : List D) : List (Option Nat) := ds.map pinOf
theorem owns_pins {st : Store} {gs : List G} {ds : List D} {fs : List Nat} (h : Owns st gs ds fs) : OOwn st (.lst ds) (.lsp (pinsOf ds) gs) fs := .lsp h fun i n e => by
  unfold pinsOf at e
  rw [List.getElem?_map] at e
  cases q : ds[i]? with
  | none => rw [q] at e; cases e
  | some d => rw [q] at e; exact congrArg some (pinOf_eq (by simpa using e))
/-- through a list that a list of lists holds; what the whole holds is pinned in the meantime -/
theorem ws_forB {m : W Int} {tbl : List (Option (List τ))} {s0 : σ} {Gs : σ → Sl} {Gt : List (Option Nat) → τ → σ → Sl} {own : List Nat} {b : τ → σ → W σ} (hi : WP Γ fi m (gM eI)) (hk : ∀ s, (Gs s)[k]? = some (some (o, gL (gOL e) tbl))) (h0 : Less (Gs s0) Γ) (hd : ∀ s, SameDom (Gs s) (Gs s0))
    (ht : ∀ ps x s, TG B ((Gs s).set k (some (o, .lsp ps (tbl.map (gOL e))))) tg (e x) (Gt ps x s) own) (hb : ∀ ps x s, WS B (Gt ps x s) body (b x s) (fun s' => .nx ((Gs s').set k (some (o, .lsp ps (tbl.map (gOL e))))))) :
    WS B Γ (fFor (fIt (fBin gIx (fName k) fi)) tg body) (m.bind fun i => (atW tbl i).bind fun ox => (W.ofO ox).bind fun xs => W.forN b xs s0) (fun s => .nx (Gs s)) := fun fr env st Q X r q => by
  obtain ⟨j, r1, f1, ⟨ox, hox, xs, rfl, q1⟩, a1, b1⟩ := hi env st _ X r.rd q
  obtain ⟨rfl, _⟩ := b1.tup_inv
  have r0 := r.less h0
  obtain ⟨d, ff, t1, t2, t3, t4⟩ := r0.take (hk s0)
  obtain ⟨n, ds, f', rfl, k1, k2, rfl⟩ := t2.lst_inv
  have hlen := k2.length
  simp only [List.length_map] at hlen
  -- the list
  unfold atI at hox
  cases hj : ixN tbl.length j with
  | none => rw [hj] at hox; cases hox
  | some p =>
    rw [hj] at hox
    obtain ⟨dd, fx, fo, u1, u2, _, _⟩ := owns_split k2 hox
    obtain ⟨n2, ds2, f2, rfl, v1, v2, _⟩ := Own.lst_inv u2
    obtain ⟨rfl, _⟩ := Owns.pv_inv v2
    have hidx : (fBin gIx (fName k) fi) env st = .ok (.v (.ref n2)) st := by
      rw [ev_bin (ev_name t1) a1]
      have : idx st (.v (.ref n)) (.v (PV.int j).d) = some (.ref n2) := by
        refine (idx_lst j (.inl ⟨n, rfl, k1⟩)).trans ?_
        unfold atI
        rw [← hlen, hj]; exact u1
      unfold gIx
      rw [show idx st (.v (.ref n)) (.v (eI j).d) = some (.ref n2) from this]
    have hkl : ∀ s, k < (Gs s).length := fun s => (List.getElem?_eq_some_iff.mp (hk s)).1
    have wp : Own st (.lsp (pinsOf ds) (tbl.map (gOL e))) (.ref n) (n :: f') := .obj k1 (owns_pins k2)
    have r2 := t4.back (o := o) (by simp; exact hkl s0) t1 wp t3
    rw [List.set_set] at r2
    have hd' : ∀ s, SameDom ((Gs s).set k (some (o, .lsp (pinsOf ds) (tbl.map (gOL e))))) ((Gs s0).set k (some (o, .lsp (pinsOf ds) (tbl.map (gOL e))))) := fun s => by
      show List.map _ _ = List.map _ _
      rw [List.map_set, List.map_set, hd s]
    have hl : ∀ s, ((Gs s).set k (some (o, .lsp (pinsOf ds) (tbl.map (gOL e))))).length = env.length := fun s => by
      rw [← r2.len]
      have := congrArg List.length (hd' s)
      simpa using this
    unfold fFor
    rw [show fIt (fBin gIx (fName k) fi) env st = .ok ⟨xs.map fun x => (e x).d, Sq.at n2 (xs.map fun x => (e x).d)⟩ st by rw [ev_it hidx]; simp only [sqOf, v1]]
    show SP B fr st _ Q X (forL _ tg body env _ env st)
    have hpin : (pinsOf ds)[p]? = some (some n2) := by
      unfold pinsOf
      rw [List.getElem?_map, u1]; rfl
    have := forN_sim (ok := Sq.at n2 (xs.map fun x => (e x).d)) (Gs := fun s => (Gs s).set k (some (o, .lsp (pinsOf ds) (tbl.map (gOL e))))) (fun s fr' env' st' r' => by
      obtain ⟨d, f', w1, w2, w3, _⟩ := r'.take (i := k) (o := o) (g := .lsp (pinsOf ds) (tbl.map (gOL e))) (List.getElem?_set_self (hkl s))
      cases w2 with
      | obj z1 z2 =>
        cases z2 with
        | lsp z2 z3 =>
          have h1 := z3 p n2 hpin
          obtain ⟨d3, f3, y1, y2⟩ := owns_at z2 hox
          rw [h1] at y1; cases y1
          obtain ⟨n5, ds5, f5, e5, y3, y4, _⟩ := Own.lst_inv y2
          cases e5
          obtain ⟨rfl, _⟩ := Owns.pv_inv y4
          exact y3) (ht (pinsOf ds)) (hb (pinsOf ds)) (fun s => r2.filled (hd' s)) hl xs s0 fr env st Q X r2 q1
    refine this.nxmap fun s e1 s1 r3 => ?_
    obtain ⟨d, f', w1, w2, w3, w4⟩ := r3.take (i := k) (o := o) (g := .lsp (pinsOf ds) (tbl.map (gOL e))) (List.getElem?_set_self (hkl s))
    cases w2 with
    | obj z1 z2 =>
      cases z2 with
      | lsp z2 z3 =>
        have := w4.back (o := o) (by simp; exact hkl s) w1 (.obj z1 (.lst z2) : Own s1 (gL (gOL e) tbl) _ _) w3
        rw [List.set_set, List.set_set, set_same (hk s)] at this
        exact this
end

/-! ### sorts, sets, places, bits -/
section
variable {Γ : Sl} {f fa : FE} {α β τ : Type} {e : τ → PV} {i k : Nat} {o : Option Nat} {st : Store}
theorem asT_ints (x : Int) (xs : List Int) : ((x :: xs).map fun x => (eI x).d).mapM D.asT = none := by
  rw [List.map_cons, List.mapM_cons]; rfl
theorem op1_sortXI : Op1W gSortX (gL (gM eI)) sortW (gL (gM eI)) := fun st xs ra f1 Q X h1 q => by
  obtain ⟨s1, s2, s3, s4, s5, _⟩ := gL_pv h1
  have key : gSortX ra st = gSorted ra st := by
    unfold gSortX
    rw [s3]
    simp only [s1, Option.bind_some]
    cases xs with
    | nil => rfl
    | cons x xs => rw [asT_ints]
  obtain ⟨c, rc, k1, k2, k3⟩ := op1_sortL st xs ra f1 Q X h1 q
  exact ⟨c, rc, k1, key.trans k2, k3⟩
theorem op1_sortXK : Op1W gSortX (gK e) sortK (gL (gM eI)) := fun st kvs ra f1 Q X h1 q => by
  obtain ⟨c, rc, k1, k2, k3⟩ := op1_sortK st kvs ra f1 Q X h1 q
  refine ⟨c, rc, k1, ?_, k3⟩
  rcases dk_cases h1 with ⟨n, rfl, hn⟩ | rfl
  · unfold gSortX
    simp only [objOf, hn, seqL, Option.bind_none]
    exact k2
  · unfold gSortX
    simp only [objOf, seqL, Option.bind_none]
    exact k2
/-- tuples of ints -/
def sortTW (xs : List (List Int)) : W (List (List Int)) := W.need (∀ x ∈ xs, x ≠ []) (W.pure (srt lexB xs))
theorem asT_tups : ∀ xs : List (List Int), (xs.map fun x => (eS eI x).d).mapM D.asT = some xs
  | [] => rfl
  | x :: xs => by
    rw [List.map_cons, List.mapM_cons, asT_tups xs]
    have : (eS eI x).d.asT = some x := by
      rw [eS_d]
      exact asI_map x
    rw [this]; rfl
theorem dtup_eq (x : List Int) : dtup x = (eS eI x).d := by rw [eS_d]; rfl
theorem op1_sortXT : Op1W gSortX (gL (gM (eS eI))) sortTW (gL (gM (eS eI))) := fun st xs ra f1 Q X h1 ⟨c, q⟩ => by
  obtain ⟨s1, s2, s3, s4, s5, _⟩ := gL_pv h1
  refine ⟨_, .o (.lst ((srt lexB xs).map fun x => (eS eI x).d)), q, ?_, .o (.lst (Owns.pv _ _))⟩
  unfold gSortX
  rw [s3]
  simp only [s1, Option.bind_some, asT_tups]
  cases xs with
  | nil =>
    unfold gSorted
    rw [s3]
    simp only [s1]
    rfl
  | cons x xs =>
    simp only
    rw [if_pos (by
      rw [List.all_eq_true]
      intro y hy
      have := c y hy
      cases y with
      | nil => exact absurd rfl this
      | cons _ _ => rfl)]
    refine congrArg (fun l => Out.ok (R.o (O.lst l)) st) (List.map_congr_left fun y _ => dtup_eq y)
abbrev gSI : List Int → G := fun L => .sI L
def setIW (xs : List Int) : W (List Int) := W.need (xs.length ≤ 4000) (W.pure (srtU ltI xs))
theorem op1_setI : Op1W gSetX (gL (gM eI)) setIW gSI := fun st xs ra f1 Q X h1 ⟨c, q⟩ => by
  obtain ⟨s1, s2, s3, s4, s5, _⟩ := gL_pv h1
  refine ⟨_, .o (.sI (srtU ltI xs)), q, ?_, .o (.sI _)⟩
  unfold gSetX
  simp only [s1, Option.bind_some, asI_map]
  rw [if_pos c]
theorem sI_cases {L : List Int} {r : R} {f : List Nat} (h : ROwn st r (gSI L) f) : objOf st r = some (.sI L) := by
  cases h with
  | v h =>
    obtain ⟨n, y, f', rfl, k1, k2, _⟩ := h.ob_inv (.sI _)
    cases k2
    exact k1
  | o h => cases h; rfl
def sortSI (xs : List Int) : W (List Int) := W.need (xs.length < 64) (W.pure (srtU ltI xs))
theorem op1_sortSI : Op1W gSortX gSI sortSI (gL (gM eI)) := fun st xs ra f1 Q X h1 ⟨c, q⟩ => by
  refine ⟨_, .o (.lst ((srtU ltI xs).map fun x => (eI x).d)), q, ?_, .o (.lst (Owns.pv _ _))⟩
  unfold gSortX
  rw [sI_cases h1]
  simp only
  rw [if_pos c]; rfl
/-- set of pairs, in order -/
def setPW (xs : List (Int × Int)) : W (List (Int × Int)) := W.need (xs.length < 64) (W.pure xs)
theorem asT_pairs : ∀ xs : List (Int × Int), (xs.map fun x => (eP eI eI x).d).mapM D.asT = some (xs.map pL)
  | [] => rfl
  | x :: xs => by rw [List.map_cons, List.mapM_cons, asT_pairs xs]; rfl
theorem asI_pairs (x : Int × Int) (xs : List (Int × Int)) : ((x :: xs).map fun x => (eP eI eI x).d).mapM D.asI = none := by
  rw [List.map_cons, List.mapM_cons]; rfl
def pOf (l : List Int) : Int × Int := (l.getD 0 0, l.getD 1 0)
def sortPW (xs : List (Int × Int)) : W (List (Int × Int)) := W.pure ((srt lexB (xs.map pL)).map pOf)
theorem pL_pOf {xs : List (Int × Int)} {l : List Int} (h : l ∈ xs.map pL) : pL (pOf l) = l := by
  obtain ⟨p, _, rfl⟩ := List.mem_map.mp h; rfl
theorem op1_sortXP : Op1W gSortX (gL (gM (eP eI eI))) sortPW (gL (gM (eP eI eI))) := fun st xs ra f1 Q X h1 q => by
  obtain ⟨s1, s2, s3, s4, s5, _⟩ := gL_pv h1
  refine ⟨_, .o (.lst (((srt lexB (xs.map pL)).map pOf).map fun x => (eP eI eI x).d)), q, ?_, .o (.lst (Owns.pv _ _))⟩
  unfold gSortX
  rw [s3]
  simp only [s1, Option.bind_some, asT_pairs]
  cases xs with
  | nil =>
    unfold gSorted
    rw [s3]
    simp only [s1]
    rfl
  | cons x xs =>
    simp only [List.map_cons]
    rw [if_pos (by
      rw [List.all_eq_true]
      intro y hy
      rcases List.mem_cons.mp hy with e | e
      · rw [e]; rfl
      · obtain ⟨p, _, rfl⟩ := List.mem_map.mp e; rfl)]
    refine congrArg (fun l => Out.ok (R.o (O.lst l)) st) ?_
    rw [List.map_map]
    refine List.map_congr_left fun l hl => ?_
    have hm : l ∈ (x :: xs).map pL := (srt_perm _).mem_iff.mp hl
    show dtup l = (eP eI eI (pOf l)).d
    conv => lhs; rw [← pL_pOf hm]
    rfl
def indexW (xs : List Int) (k : Int) : W Int := W.need (k ∈ xs) (W.pure (xs.idxOf k : Nat))
theorem wp_index {xs : List Int} {m : W Int} (h0 : Γ[i]? = some (some (o, gL (gM eI) xs))) (h : WP Γ f m (gM eI)) : WP Γ (fMeth1 gIndex (fName i) f) (m.bind fun k => indexW xs k) (gM eI) := fun env st Q X r q => by
  obtain ⟨k, rr, fv, ⟨c, q1⟩, a1, b1⟩ := h env st _ X r q
  obtain ⟨rfl, _⟩ := b1.tup_inv
  obtain ⟨d, f0, z1, z2⟩ := r.get _ _ _ h0
  obtain ⟨n, ds, f', rfl, k1, k2, _⟩ := z2.lst_inv
  obtain ⟨rfl, _⟩ := Owns.pv_inv k2
  refine ⟨_, .v (.int (xs.idxOf k : Nat)), [], q1, ?_, .v (.im (.int _))⟩
  rw [ev_meth1 (ev_name z1) (seqL_ref k1) a1]
  show gIndex (.v (.ref n)) (.v (.int k)) st = _
  unfold gIndex
  simp only [seqL_ref k1, Option.bind_some, asI_map]
  rw [if_pos c]
def minW (xs : List Int) : W Int := W.need (xs ≠ []) (W.pure (minL xs))
def maxW (xs : List Int) : W Int := W.need (xs ≠ []) (W.pure (maxL xs))
theorem op1_min : Op1W gMinL (gL (gM eI)) minW (gM eI) := fun st xs ra f1 Q X h1 ⟨c, q⟩ => by
  obtain ⟨s1, _⟩ := gL_pv h1
  refine ⟨_, .v (.int (minL xs)), q, ?_, .v (.im (.int _))⟩
  unfold gMinL
  simp only [s1, Option.bind_some, asI_map]
  cases xs with
  | nil => exact absurd rfl c
  | cons x xs => rfl
theorem op1_max : Op1W gMaxL (gL (gM eI)) maxW (gM eI) := fun st xs ra f1 Q X h1 ⟨c, q⟩ => by
  obtain ⟨s1, _⟩ := gL_pv h1
  refine ⟨_, .v (.int (maxL xs)), q, ?_, .v (.im (.int _))⟩
  unfold gMaxL
  simp only [s1, Option.bind_some, asI_map]
  cases xs with
  | nil => exact absurd rfl c
  | cons x xs => rfl
theorem asB_map (xs : List Bool) : (xs.map fun x => (eB x).d).mapM D.asB = some xs := by
  induction xs with
  | nil => rfl
  | cons x xs ih => rw [List.map_cons, List.mapM_cons, ih]; rfl
def allW (xs : List Bool) : W Bool := W.pure (xs.all id)
theorem op1_all : Op1W gAllL (gL (gM eB)) allW (gM eB) := fun st xs ra f1 Q X h1 q => by
  obtain ⟨s1, _⟩ := gL_pv h1
  refine ⟨_, .v (.bl (xs.all id)), q, ?_, .v (.im (.bl _))⟩
  unfold gAllL
  simp only [s1, Option.bind_some, asB_map]
def shlW (i j : Int) : W Int := W.need (0 ≤ j ∧ j ≤ 1000000 ∧ i.natAbs < 2 ^ 64) (W.pure (i * 2 ^ j.toNat))
def shrW (i j : Int) : W Int := W.need (0 ≤ j) (W.pure (i / 2 ^ j.toNat))
def andW (i j : Int) : W Int := W.pure (Builtin.bitAnd i j)
theorem op2_shlW : Op2W gShl (gM eI) (gM eI) shlW (gM eI) := fun st i j ra rb f1 f2 Q X h1 h2 ⟨c, q⟩ => by
  obtain ⟨rfl, _⟩ := h1.tup_inv
  obtain ⟨rfl, _⟩ := h2.tup_inv
  refine ⟨_, .v (.int _), q, ?_, .v (.im (.int _))⟩
  show (if _ then _ else _) = _
  rw [if_pos c]
theorem op2_shrW : Op2W gShr (gM eI) (gM eI) shrW (gM eI) := fun st i j ra rb f1 f2 Q X h1 h2 ⟨c, q⟩ => by
  obtain ⟨rfl, _⟩ := h1.tup_inv
  obtain ⟨rfl, _⟩ := h2.tup_inv
  refine ⟨_, .v (.int _), q, ?_, .v (.im (.int _))⟩
  show (if _ then _ else _) = _
  rw [if_pos c]
theorem op2_andW : Op2W gAnd (gM eI) (gM eI) andW (gM eI) := fun st i j ra rb f1 f2 Q X h1 h2 q => by
  obtain ⟨rfl, _⟩ := h1.tup_inv
  obtain ⟨rfl, _⟩ := h2.tup_inv
  exact ⟨_, .v (.int _), q, rfl, .v (.im (.int _))⟩
end

/-! ### draws -/
/-- some number from 0 to many - 1 -/
def drawW (many : Int) : W Int := W.need (1 ≤ many ∧ many < 1073741824) (W.some fun r => 0 ≤ r ∧ r < many)
abbrev IsDraw (B : List O → Prop) (Fd : FF) : Prop := ∀ many : Int, WF B Fd [.bag, gM eI many] (drawW many) (gM eI) (fun _ => [.bag, gM eI many])
def pickW {τ : Type} (xs : List τ) : W τ := W.bind (drawW (xs.length : Int)) fun k => atW xs k
section
variable {B : List O → Prop} {Fd : FF} {τ : Type} {e : τ → PV}
/-- one of some -/
theorem wf_pick (hd : IsDraw B Fd) (xs : List τ) : WF B (mkF 2 (fRet (fBin gIx (fName 1) (fCall Fd (fCons (fName 0) (fCons (fCall1 gLen (fName 1)) fNil)))))) [.bag, gL (gM e) xs] (pickW xs) (gM e) (fun _ => [.bag, gL (gM e) xs]) :=
  wf_of fun os hl => match os, hl with
    | [o0, o1], _ => ⟨fun a => .rt (gM e a) [none, some (o1, gL (gM e) xs)], fun _ => [none, some (o1, gL (gM e) xs)], (show WS B [some (o0, .bag), some (o1, gL (gM e) xs)] _ (pickW xs) _ from
      ws_retR (Γe := fun _ => [none, some (o1, gL (gM e) xs)]) (we_binNE (op := atW) (op2_ixL (eb := e)) (va := gL (gM e)) (a := xs) (i := 1) rfl
        (we_callP (pa_bag (i := 0) rfl (pa_v (wv_un (ec := eI) (op := fun xs => (xs.length : Int)) (op1_lenL (v := gM e)) (wp_name (i := 1) (v := gL (gM e)) (a := xs) rfl)) pa_nil)) (.own (.own .nil)) (hd _) (fun _ => .own (.own .nil)) (fun _ => rfl)))
        (fun _ => .no (.yes .nil))), fun _ => .inl rfl, fun _ => .flat .bag (.obj (.lst _) .nil)⟩
/-- one of some in a tuple -/
theorem wf_pickT (hd : IsDraw B Fd) (xs : List τ) : WF B (mkF 2 (fRet (fBin gIx (fName 1) (fCall Fd (fCons (fName 0) (fCons (fCall1 gLen (fName 1)) fNil)))))) [.bag, gM (eS e) xs] (pickW xs) (gM e) (fun _ => [.bag, gM (eS e) xs]) :=
  wf_of fun os hl => match os, hl with
    | [o0, o1], _ => ⟨fun a => .rt (gM e a) [], fun _ => [], (show WS B [some (o0, .bag), some (o1, gM (eS e) xs)] _ (pickW xs) _ from
      ws_retR (Γe := fun _ => []) (we_binVE (ea := eS e) (a := xs) (op := atW) (op2_ixS (eb := e)) (wv_name (i := 1) rfl)
        (we_callP (pa_bag (i := 0) rfl (pa_v (wv_lenS (e := e) (wv_name (i := 1) rfl)) pa_nil)) (.own (.own .nil)) (hd _) (fun _ => .own (.own .nil)) (fun _ => rfl)))
        (fun _ => .nil)), fun _ => .inl rfl, fun _ => .flat0 .bag (.flat0 (.im _) .nil)⟩
/-- some in a drawn order -/
def mixW {τ : Type} (xs : List τ) : W (List τ) := W.bind (W.whileN (fun s : List τ × List τ => W.pure (!s.1.isEmpty)) (fun s => W.bind (drawW (s.1.length : Int)) fun k => W.bind (popAtW s.1 k) fun p => W.bind (appK s.2 p) fun p => W.pure (p.2, s.2 ++ [p.1])) (xs, [])) fun s => W.pure s.2
end
end Fx

set_option Elab.async false
set_option linter.all false
set_option maxRecDepth 100000
set_option maxHeartbeats 4000000
set_option autoImplicit false
/-! Fx, part Zj: trees (ways), names for one thing, drawn orders. -/
namespace Fx
open PySem PySem.Spec PyProof.Rows L2
variable [BagAt]

/-! ### trees: (number, (trees)) -/
def wy : Nat → PV → Bool
  | 0, _ => false
  | n + 1, .tup [.int _, .tup ws] => ws.all (wy n)
  | _ + 1, _ => false
theorem wy_inv {n : Nat} {p : PV} (h : wy n p = true) : ∃ k i ws, n = k + 1 ∧ p = .tup [.int i, .tup ws] ∧ ∀ w ∈ ws, wy k w = true := by
  cases n with
  | zero => cases h
  | succ n =>
    unfold wy at h
    split at h
    · cases h
    · rename_i n' i ws e1
      cases e1
      exact ⟨n, i, ws, rfl, rfl, by simpa [List.all_eq_true] using h⟩
    · cases h
theorem wy_mk {n : Nat} {i : Int} {ws : List PV} (h : ∀ w ∈ ws, wy n w = true) : wy (n + 1) (.tup [.int i, .tup ws]) = true := by
  unfold wy
  exact List.all_eq_true.mpr h
theorem wy_up : ∀ {n : Nat} {p : PV}, wy n p = true → wy (n + 1) p = true
  | n, p, h => by
    obtain ⟨k, i, ws, rfl, rfl, hw⟩ := wy_inv h
    exact wy_mk fun w hm => wy_up (hw w hm)
termination_by n => n
theorem wy_mono {n m : Nat} {p : PV} (h : wy n p = true) (hm : n ≤ m) : wy m p = true := by
  induction m with
  | zero => have : n = 0 := by omega
            subst this; exact h
  | succ m ih =>
    by_cases e : n = m + 1
    · subst e; exact h
    · exact wy_up (ih (by omega))
theorem wy_ok : ∀ {n : Nat} {p : PV}, wy n p = true → p.sok = true ∧ p.dep ≤ 2 * n + 1
  | n, p, h => by
    obtain ⟨k, i, ws, rfl, rfl, hw⟩ := wy_inv h
    have key : ∀ l : List PV, (∀ w ∈ l, wy k w = true) → PV.soks l = true ∧ PV.deps l ≤ 2 * k + 1 := by
      intro l hl
      induction l with
      | nil => exact ⟨rfl, Nat.zero_le _⟩
      | cons x l ih =>
        obtain ⟨a, b⟩ := ih fun w hm => hl w (List.mem_cons_of_mem _ hm)
        obtain ⟨c, d⟩ := wy_ok (hl x List.mem_cons_self)
        refine ⟨by rw [PV.soks, a, c]; rfl, ?_⟩
        rw [PV.deps]; omega
    obtain ⟨a, b⟩ := key ws hw
    refine ⟨?_, ?_⟩
    · show (true && ((PV.soks ws) && true)) = true
      rw [a]; rfl
    · show max 1 (max (PV.deps ws + 1) 0) + 1 ≤ _
      omega
termination_by n => n
theorem wy_eq : ∀ {n m : Nat} {p q : PV}, wy n p = true → wy m q = true → (PyData.eqv p.pd q.pd = true ↔ p = q)
  | n, m, p, q, h, h' => by
    obtain ⟨k, i, ws, rfl, rfl, hw⟩ := wy_inv h
    obtain ⟨k', j, vs, rfl, rfl, hv⟩ := wy_inv h'
    have key : ∀ l r : List PV, (∀ w ∈ l, wy k w = true) → (∀ w ∈ r, wy k' w = true) → (PyData.eqvAll (PV.pds l) (PV.pds r) = true ↔ l = r) := by
      intro l
      induction l with
      | nil =>
        intro r _ _
        cases r with
        | nil => simp [PyData.eqvAll, PV.pds]
        | cons y r => simp [PyData.eqvAll, PV.pds]
      | cons x l ih =>
        intro r hl hr
        cases r with
        | nil => simp [PyData.eqvAll, PV.pds]
        | cons y r =>
          rw [PV.pds, PV.pds, PyData.eqvAll, Bool.and_eq_true, wy_eq (hl x List.mem_cons_self) (hr y List.mem_cons_self), ih r (fun w hm => hl w (List.mem_cons_of_mem _ hm)) fun w hm => hr w (List.mem_cons_of_mem _ hm)]
          constructor
          · rintro ⟨rfl, rfl⟩; rfl
          · intro e; cases e; exact ⟨rfl, rfl⟩
    show PyData.eqv (.tuple [.int i, .tuple (PV.pds ws)]) (.tuple [.int j, .tuple (PV.pds vs)]) = true ↔ _
    rw [PyData.eqv, PyData.eqvAll, PyData.eqvAll, PyData.eqvAll, PyData.eqv, PyData.eqv, Bool.and_true, Bool.and_eq_true, key ws vs hw hv]
    simp
termination_by n => n
/-- a way: a tree of at most 25 levels -/
structure Wy where
  p : PV
  h : wy 25 p = true
theorem Wy.ext' {a b : Wy} (h : a.p = b.p) : a = b := by
  cases a; cases b; cases h; rfl
noncomputable instance : DecidableEq Wy := fun a b => Classical.propDecidable (a = b)
abbrev eW : Wy → PV := Wy.p
/-- no more than n levels -/
def Wy.le (w : Wy) (n : Nat) : Prop := wy n w.p = true
def Wy.at (w : Wy) : Int := match w.p with
  | .tup (.int i :: _) => i
  | _ => 0
def Wy.kids (w : Wy) : List PV := match w.p with
  | .tup [_, .tup ws] => ws
  | _ => []
theorem Wy.kids_eq (w : Wy) : w.p = .tup [.int w.at, .tup w.kids] := by
  obtain ⟨k, i, ws, _, e, _⟩ := wy_inv w.h
  unfold Wy.at Wy.kids
  rw [e]
theorem Wy.kids_ok {w : Wy} {n : Nat} (h : wy (n + 1) w.p = true) : ∀ p ∈ w.kids, wy n p = true := by
  obtain ⟨k, i, ws, e0, e, hw⟩ := wy_inv h
  cases e0
  unfold Wy.kids
  rw [e]
  exact hw
def Wy.on (w : Wy) : List Wy := w.kids.attach.map fun p => ⟨p.1, wy_up (Wy.kids_ok (n := 24) w.h p.1 p.2)⟩
theorem Wy.on_map (w : Wy) : w.on.map eW = w.kids := by
  unfold Wy.on
  rw [List.map_map]
  show w.kids.attach.map (fun p => p.1) = _
  exact List.attach_map_subtype_val _
theorem eW_eq (w : Wy) : eW w = .tup [.int w.at, .tup (w.on.map eW)] := by rw [Wy.on_map]; exact w.kids_eq
theorem Wy.le_mono {w : Wy} {n m : Nat} (h : w.le n) (hm : n ≤ m) : w.le m := wy_mono h hm
theorem Wy.le_on {w : Wy} {n : Nat} (h : w.le (n + 1)) : ∀ c ∈ w.on, c.le n := fun c hc => by
  have : c.p ∈ w.kids := by rw [← Wy.on_map]; exact List.mem_map_of_mem hc
  exact Wy.kids_ok h _ this
theorem Wy.le0 {w : Wy} (h : w.le 0) : False := by cases h
theorem Wy.induct {P : Wy → Prop} (h : ∀ w, (∀ c ∈ w.on, P c) → P w) : ∀ w, P w := by
  have : ∀ n w, Wy.le w n → P w := by
    intro n
    induction n with
    | zero => intro w hw; exact (Wy.le0 hw).elim
    | succ n ih => intro w hw; exact h w fun c hc => ih c (Wy.le_on hw c hc)
  exact fun w => this 25 w w.h
theorem Wy.inj {a b : Wy} (h1 : a.at = b.at) (h2 : a.on = b.on) : a = b := Wy.ext' (by
  have ea := eW_eq a
  have eb := eW_eq b
  show eW a = eW b
  rw [ea, eb, h1, h2])
theorem eqW : EqE eW 51 := ⟨fun w => wy_ok w.h, fun a b => by
  have := wy_eq a.h b.h
  by_cases h : a = b
  · subst h
    rw [decide_eq_true rfl]
    exact this.mpr rfl
  · rw [decide_eq_false h]
    cases e : PyData.eqv (eW a).pd (eW b).pd with
    | false => rfl
    | true => exact absurd (Wy.ext' (this.mp e)) h⟩
theorem nnW : NnE eW := ⟨fun w e => by rw [eW_eq] at e; cases e⟩
open Classical in
noncomputable def wyO (i : Int) (ts : List Wy) : Option Wy := if h : ∀ t ∈ ts, Wy.le t 24 then some ⟨.tup [.int i, .tup (ts.map eW)], wy_mk fun w hw => by
  obtain ⟨t, ht, rfl⟩ := List.mem_map.mp hw
  exact h t ht⟩ else none
theorem wyO_eq {i : Int} {ts : List Wy} {w : Wy} (h : wyO i ts = some w) : eW w = .tup [.int i, .tup (ts.map eW)] := by
  unfold wyO at h
  split at h
  · cases h; rfl
  · cases h
theorem eW_inj : ∀ {xs ys : List Wy}, xs.map eW = ys.map eW → xs = ys
  | [], [], _ => rfl
  | [], _ :: _, h => by cases h
  | _ :: _, [], h => by cases h
  | x :: xs, y :: ys, h => by
    rw [List.map_cons, List.map_cons] at h
    injection h with h1 h2
    rw [Wy.ext' h1, eW_inj h2]
theorem wyO_on {i : Int} {ts : List Wy} {w : Wy} (h : wyO i ts = some w) : w.at = i ∧ w.on = ts := by
  have := wyO_eq h
  rw [eW_eq] at this
  simp only [PV.tup.injEq, List.cons.injEq, PV.int.injEq, and_true] at this
  exact ⟨this.1, eW_inj this.2⟩
theorem wyO_le {i : Int} {ts : List Wy} {w : Wy} {n : Nat} (h : wyO i ts = some w) (hl : ∀ t ∈ ts, Wy.le t n) : w.le (n + 1) := by
  show wy (n + 1) (eW w) = true
  rw [wyO_eq h]
  exact wy_mk fun p hp => by
    obtain ⟨t, ht, rfl⟩ := List.mem_map.mp hp
    exact hl t ht
theorem wyO_some {i : Int} {ts : List Wy} (h : ∀ t ∈ ts, Wy.le t 24) : ∃ w, wyO i ts = some w := by
  unfold wyO
  rw [dif_pos h]
  exact ⟨_, rfl⟩
section
variable {B : List O → Prop} {Γ Γ' : Sl} {f : FE} {w : Wy}
theorem wv_wat (h : WV Γ f (eW w)) : WV Γ (fBin gIx f (fC (.int 0))) (eI w.at) := wv_ix (n := 0) (by rw [eW_eq] at h; exact h) rfl
theorem wv_won (h : WV Γ f (eW w)) : WV Γ (fBin gIx f (fC (.int 1))) (eS eW w.on) := wv_ix (n := 1) (by rw [eW_eq] at h; exact h) rfl
theorem we_toWy {m : W (Int × List Wy)} (h : WE B Γ f m (gM (eP eI (eS eW))) fun _ => Γ') : WE B Γ f (m.bind fun p => W.ofO (wyO p.1 p.2)) (gM eW) (fun _ => Γ') := fun fr env st Q X r q => by
  refine (h fr env st _ X r q).mono (fun rr s ⟨a, fv, ⟨y, h0, h1⟩, h2, h3, h4⟩ => ?_) fun _ _ h => h
  refine ⟨y, fv, h1, ?_, h3, h4⟩
  show ROwn s rr (.im (eW y)) fv
  rw [wyO_eq h0]; exact h2
theorem wp_toWy {m : W (Int × List Wy)} (h : WP Γ f m (gM (eP eI (eS eW)))) : WP Γ f (m.bind fun p => W.ofO (wyO p.1 p.2)) (gM eW) := fun env st Q X r q => by
  obtain ⟨a, rr, fv, ⟨y, h0, h1⟩, h2, h3⟩ := h env st _ X r q
  refine ⟨y, rr, fv, h1, h2, ?_⟩
  show ROwn st rr (.im (eW y)) fv
  rw [wyO_eq h0]; exact h3
end

/-! ### defs -/
section
variable {B : List O → Prop} {F : FF} {gs : List G} {β : Type} {m m' : W β} {v : β → G} {post : β → List G}
theorem wf_ref (h : WF B F gs m v post) (k : ∀ Q X, m' Q X → m Q X) : WF B F gs m' v post := fun fr ds st fs Q X o c q => h fr ds st fs Q X o c (k Q X q)
theorem wf_no : WF B F gs (W.ofO none) v post := fun fr ds st fs Q X o c ⟨_, q, _⟩ => nomatch q
theorem wf_fail : WF B F gs W.fail v post := fun fr ds st fs Q X o c q => False.elim q
end

/-! ### names that a statement leaves alone -/
def FixS (k : Nat) (s : FS) : Prop := ∀ env st, match s env st with
  | .next e _ => e[k]? = env[k]?
  | .brk e _ => e[k]? = env[k]?
  | .cont e _ => e[k]? = env[k]?
  | _ => True
section
variable {k : Nat} {s t : FS}
theorem fix_skip : FixS k fSkip := fun env st => rfl
theorem fix_expr {f : FE} : FixS k (fExpr f) := fun env st => by
  unfold fExpr
  cases f env st <;> simp [Out.thenS]
theorem fix_set {i : Nat} {f : FE} (h : i ≠ k) : FixS k (fSet i f) := fun env st => by
  unfold fSet
  cases f env st with
  | ok a s => exact List.getElem?_set_ne h
  | exc x s => trivial
  | stuck => trivial
theorem fix_seq (h : FixS k s) (h' : FixS k t) : FixS k (fSeq s t) := fun env st => by
  have a := h env st
  unfold fSeq
  cases e : s env st with
  | next e1 s1 =>
    rw [e] at a
    have b := h' e1 s1
    show match t e1 s1 with | .next e _ => e[k]? = env[k]? | .brk e _ => e[k]? = env[k]? | .cont e _ => e[k]? = env[k]? | _ => True
    cases e2 : t e1 s1 <;> rw [e2] at b <;> first | exact b.trans a | trivial
  | ret r s1 => trivial
  | brk e1 s1 => rw [e] at a; exact a
  | cont e1 s1 => rw [e] at a; exact a
  | exc x e1 s1 => trivial
  | stuck => trivial
theorem fix_if {c : FB} (h : FixS k s) (h' : FixS k t) : FixS k (fIfS c s t) := fun env st => by
  unfold fIfS
  cases c env st with
  | ok b s1 =>
    show match (if b = true then s env s1 else t env s1) with | .next e _ => e[k]? = env[k]? | .brk e _ => e[k]? = env[k]? | .cont e _ => e[k]? = env[k]? | _ => True
    cases b with
    | true => rw [if_pos rfl]; exact h env s1
    | false => rw [if_neg (by decide)]; exact h' env s1
  | exc x s => trivial
  | stuck => trivial
theorem scope_at {e0 e : Env} (hl : e0.length = e.length) (h : e[k]? = e0[k]?) : (scope e0 e)[k]? = e0[k]? := by
  unfold scope
  rw [List.getElem?_zipWith, h]
  cases e0[k]? with
  | none => rfl
  | some o => cases o <;> rfl
theorem fix_forL {ok : Store → Prop} {tg : FG} {body : FS} {e0 : Env} (ht : ∀ d e e', tg d e = some e' → e'[k]? = e[k]?) (hb : FixS k body) : ∀ (ds : List D) (env : Env) (st : Store), env[k]? = e0[k]? → match forL ok tg body e0 ds env st with
    | .next e _ => e[k]? = e0[k]?
    | .brk e _ => e[k]? = e0[k]?
    | .cont e _ => e[k]? = e0[k]?
    | _ => True
  | [], env, st, h => by
    unfold forL
    by_cases c : ok st ∧ e0.length = env.length
    · rw [if_pos c]; exact scope_at c.2 h
    · rw [if_neg c]; trivial
  | d :: ds, env, st, h => by
    unfold forL
    by_cases c : ok st ∧ e0.length = env.length
    · rw [if_pos c]
      cases e1 : tg d (scope e0 env) with
      | none => trivial
      | some env1 =>
        have h1 : env1[k]? = e0[k]? := (ht _ _ _ e1).trans (scope_at c.2 h)
        have h2 := hb env1 st
        show match (match body env1 st with
          | .next e s => forL ok tg body e0 ds e s
          | .cont e s => forL ok tg body e0 ds e s
          | .brk e s => if e0.length = e.length then .next (scope e0 e) s else .stuck
          | .ret r s => .ret r s
          | .exc x e s => .exc x e s
          | .stuck => .stuck : OutS) with
          | .next e _ => e[k]? = e0[k]?
          | .brk e _ => e[k]? = e0[k]?
          | .cont e _ => e[k]? = e0[k]?
          | _ => True
        cases e2 : body env1 st with
        | next e s => rw [e2] at h2; exact fix_forL ht hb ds e s (h2.trans h1)
        | cont e s => rw [e2] at h2; exact fix_forL ht hb ds e s (h2.trans h1)
        | brk e s =>
          rw [e2] at h2
          show match (if e0.length = e.length then OutS.next (scope e0 e) s else .stuck) with
            | .next e _ => e[k]? = e0[k]?
            | .brk e _ => e[k]? = e0[k]?
            | .cont e _ => e[k]? = e0[k]?
            | _ => True
          by_cases c3 : e0.length = e.length
          · rw [if_pos c3]; exact scope_at c3 (h2.trans h1)
          · rw [if_neg c3]; trivial
        | ret r s => trivial
        | exc x e s => trivial
        | stuck => trivial
    · rw [if_neg c]; trivial
theorem fix_for {f : FI} {tg : FG} {body : FS} (ht : ∀ d e e', tg d e = some e' → e'[k]? = e[k]?) (hb : FixS k body) : FixS k (fFor f tg body) := fun env st => by
  unfold fFor
  cases f env st with
  | ok q s => exact fix_forL ht hb q.xs env s rfl
  | exc x s => trivial
  | stuck => trivial
theorem fix_tgN {i : Nat} (h : i ≠ k) : ∀ d e e', tgN i d e = some e' → e'[k]? = e[k]? := fun d e e' q => by
  cases q
  exact List.getElem?_set_ne h
/-- a name for what another name stands for; the other name is set aside in the meantime -/
theorem ws_alias {B : List O → Prop} {Γ : Sl} {i j : Nat} {o : Option Nat} {g : G} {f : FE} {rest : FS} {ε : Type} {m : W ε} {Gx : ε → Sl} (hij : i ≠ j) (h0 : Γ[i]? = some (some (o, g))) (hr : Ob g) (hj : j < Γ.length) (hf : ∀ env st, RdS Γ env st → f env st = fName i env st) (hF : FixS i rest)
    (hw : ∀ n, WS B ((Γ.set i none).set j (pn n g)) rest m (fun a => .nx ((Gx a).set j (pn n g)))) (hG : ∀ a, (Gx a).length = Γ.length) : WS B Γ (fSeq (fSet j f) rest) m (fun a => .nx (((Gx a).set j none).set i (some (o, g)))) := fun fr env st Q X r q => by
  obtain ⟨d, f0, h1, h2, h3, h4⟩ := r.take h0
  obtain ⟨n, x0, f1, rfl, k1, k2, rfl⟩ := h2.ob_inv hr
  unfold fSeq fSet
  rw [hf env st r.rd, ev_name h1]
  show SP B fr st _ Q X (rest (env.set j (some (.ref n))) st)
  have r1 : Rel B ((Γ.set i none).set j (pn n g)) fr (env.set j (some (.ref n))) st := Rel.assign h4 (by simpa using hj) h2 (fun _ e => by cases e; rfl)
  have r2 := hw n fr (env.set j (some (.ref n))) st Q X r1 q
  have hx := hF (env.set j (some (.ref n))) st
  generalize rest (env.set j (some (.ref n))) st = out at r2 hx
  cases out with
  | next e s =>
    obtain ⟨a, Γ1, q1, q2, q3, q4⟩ := r2
    cases q2
    refine ⟨a, _, q1, rfl, ?_, q4⟩
    obtain ⟨d2, f2, u1, u2, u3, u4⟩ := q3.take (i := j) (o := some n) (g := g) (by rw [List.getElem?_set_self (by rw [hG]; exact hj)])
    have ed := u3 n rfl
    subst ed
    rw [List.set_set] at u4
    have he : e[i]? = some (some (.ref n)) := by rw [hx, List.getElem?_set_ne (fun z => hij z.symm)]; exact h1
    exact u4.back (by rw [List.length_set, hG]; exact (List.getElem?_eq_some_iff.mp h0).1) he u2 h3
  | ret r s => obtain ⟨a, g, Γ1, fv, e, q1, q2, _⟩ := r2; cases q2
  | brk e s => obtain ⟨a, Γ1, q1, q2, _⟩ := r2; cases q2
  | cont e s => obtain ⟨a, Γ1, q1, q2, _⟩ := r2; cases q2
  | exc x e s => exact r2
  | stuck => exact r2
end

end Fx

set_option Elab.async false
set_option linter.all false
set_option maxRecDepth 100000
set_option maxHeartbeats 4000000
set_option autoImplicit false
/-! Fx, part Zk: more rules for the typed layer; drawn orders. -/
namespace Fx
open PySem PySem.Spec PyProof.Rows L2
namespace W
variable {σ ρ ε : Type}
/-- behind a loop that may hand back -/
def lp (m : W (Lp σ ρ)) (k : σ → W ε) (h : ρ → ε) : W ε := m.bind fun a => match a with
  | .next s => k s
  | .ret r => W.pure (h r)
end W
variable [BagAt]
section
variable {B : List O → Prop} {Γ Γ' : Sl} {f fa fb fh : FE} {c : FB} {α β τ ε : Type} {e : τ → PV} {i j k : Nat} {o : Option Nat}
theorem we_ifG {m : W Bool} {a b : W α} {v : α → G} (hc : WT B Γ c m) (ha : WE B Γ fa a v fun _ => Γ') (hb : WE B Γ fb b v fun _ => Γ') : WE B Γ (fIf c fa fb) (m.bind fun x => W.ite x a b) v (fun _ => Γ') := fun fr env st Q X r q => by
  unfold fIf
  refine (hc fr env st _ X r q).bind (fun x s ⟨h1, h2, h3⟩ => ?_) fun _ _ h => h
  cases x with
  | true => exact (ha fr env s Q X h2 h1).mono (fun rr s2 ⟨a, fv, k1, k2, k3, k4⟩ => ⟨a, fv, k1, k2, k3, h3.trans k4⟩) fun _ _ e => e.same h3
  | false => exact (hb fr env s Q X h2 h1).mono (fun rr s2 ⟨a, fv, k1, k2, k3, k4⟩ => ⟨a, fv, k1, k2, k3, h3.trans k4⟩) fun _ _ e => e.same h3
theorem we_drop {m : W α} {v : α → G} (h : WE B Γ f m v fun _ => Γ) (l : Less Γ' Γ) : WE B Γ f m v fun _ => Γ' := fun fr env st Q X r q => by
  refine (h fr env st _ X r q).mono (fun rr s ⟨a, fv, h1, h2, h3, h4⟩ => ⟨a, fv, h1, h2, h3.less l, h4⟩) fun _ _ h => h
theorem ws_ifset {m : W Bool} {rest : FS} {ma mb : W ε} {J : ε → Fin} (hc : WT B Γ c m) (ha : WS B Γ (fSeq (fSet j fa) rest) ma J) (hb : WS B Γ (fSeq (fSet j fb) rest) mb J) : WS B Γ (fSeq (fSet j (fIf c fa fb)) rest) (m.bind fun x => W.ite x ma mb) J := fun fr env st Q X r q => by
  have h := hc fr env st _ X r q
  have key : ∀ b s, c env st = .ok b s → fSeq (fSet j (fIf c fa fb)) rest env st = fSeq (fSet j (if b = true then fa else fb)) rest env s := fun b s e => by
    have : fIf c fa fb env st = (if b = true then fa else fb) env s := by
      unfold fIf
      rw [e]
      show (if b = true then fa env s else fb env s) = _
      cases b <;> rfl
    unfold fSeq fSet
    rw [this]
  generalize hg : c env st = oc at h
  cases oc with
  | ok b s =>
    obtain ⟨h1, h2, h3⟩ := h
    rw [key b s hg]
    cases b with
    | true => exact (ha fr env s Q X h2 h1).same h3
    | false => exact (hb fr env s Q X h2 h1).same h3
  | exc x s =>
    have : fSeq (fSet j (fIf c fa fb)) rest env st = .exc x env s := by
      unfold fSeq fSet fIf
      rw [hg]; rfl
    rw [this]
    exact h
  | stuck => exact h.elim
/-- the first so many of a list, how many is reckoned behind -/
theorem we_slE {m : W (List τ)} {n : W Int} (h : WE B Γ f m (gL (gM e)) fun _ => Γ) (hu : WE B Γ fh n (gM eI) fun _ => Γ) : WE B Γ (fSl f fNo (fPart fh)) (m.bind fun xs => n.bind fun u => W.pure (cutL xs none (some u))) (gL (gM e)) (fun _ => Γ) := fun fr env st Q X r q => by
  unfold fSl
  refine (h fr env st _ X r q).bind (fun rr s ⟨xs, fv, k1, k2, k3, k4⟩ => ?_) fun _ _ h => h
  show OutP ((Out.ok none s).bind _) _ _
  simp only [Out.bind_ok]
  unfold fPart
  have hx := hu (fv ++ fr) env s _ X k3 k1
  generalize fh env s = ou at hx
  cases ou with
  | ok ru s2 =>
    obtain ⟨u, fu, q1, q2, q3, q4⟩ := hx
    obtain ⟨rfl, rfl⟩ := q2.tup_inv
    simp only [Out.bind_ok]
    have q4' := q4
    have k2' := k2.keep (st' := s2) fun n hn => q4.get n (List.mem_append_left _ hn)
    have r2 : Rel B Γ fr env s2 := (show Rel B Γ (fv ++ fr) env s2 from q3).weak
    show OutP ((Out.ok (some u) s2).bind _) _ _
    simp only [Out.bind_ok]
    rcases gL_casesP k2' with ⟨n, rfl, hn⟩ | rfl
    · simp only [slc, seqL, hn, cutD_map]
      exact ⟨_, [], q1, .o (.lst (Owns.pv e _)), r2, k4.trans q4.right⟩
    · simp only [slc, seqL, cutD_map]
      exact ⟨_, [], q1, .o (.lst (Owns.pv e _)), r2, k4.trans q4.right⟩
  | exc x s2 =>
    obtain ⟨y, q1, q2, q3, q4⟩ := hx
    exact ⟨y, q1, q2, q3.right, k4.trans q4.right⟩
  | stuck => exact hx.elim
/-- a list from a place on -/
theorem wp_slP {m : W (List τ)} {n : W Int} (h : WP Γ f m (gL (gM e))) (hl : WP Γ fh n (gM eI)) : WP Γ (fSl f (fPart fh) fNo) (m.bind fun xs => n.bind fun u => W.pure (cutL xs (some u) none)) (gL (gM e)) := fun env st Q X r q => by
  obtain ⟨xs, rr, fv, h1, h2, h3⟩ := h env st _ X r q
  obtain ⟨u, ru, fu, q1, q2, q3⟩ := hl env st _ X r h1
  obtain ⟨rfl, _⟩ := q3.tup_inv
  refine ⟨_, .o (.lst ((cutL xs (some u) none).map fun x => (e x).d)), [], q1, ?_, .o (.lst (Owns.pv e _))⟩
  have hp : fPart fh env st = .ok (some u) st := by unfold fPart; rw [q2]; rfl
  unfold fSl
  rw [h2]; simp only [Out.bind_ok]
  rw [hp]; simp only [Out.bind_ok]
  show slc rr (some u) none st = _
  rcases gL_casesP h3 with ⟨n, rfl, hn⟩ | rfl
  · simp only [slc, seqL, hn, cutD_map]
  · simp only [slc, seqL, cutD_map]
theorem we_slP {m : W (List τ)} {n : W Int} (h : WP Γ f m (gL (gM e))) (hl : WP Γ fh n (gM eI)) : WE B Γ (fSl f (fPart fh) fNo) (m.bind fun xs => n.bind fun u => W.pure (cutL xs (some u) none)) (gL (gM e)) (fun _ => Γ) := fun fr env st Q X r q => by
  obtain ⟨xs, rr, fv, h1, h2, h3⟩ := h env st _ X r.rd q
  obtain ⟨u, ru, fu, q1, q2, q3⟩ := hl env st _ X r.rd h1
  obtain ⟨rfl, _⟩ := q3.tup_inv
  have hp : fPart fh env st = .ok (some u) st := by unfold fPart; rw [q2]; rfl
  have : fSl f (fPart fh) fNo env st = .ok (.o (.lst ((cutL xs (some u) none).map fun x => (e x).d))) st := by
    unfold fSl
    rw [h2]; simp only [Out.bind_ok]
    rw [hp]; simp only [Out.bind_ok]
    show slc rr (some u) none st = _
    rcases gL_casesP h3 with ⟨n, rfl, hn⟩ | rfl
    · simp only [slc, seqL, hn, cutD_map]
    · simp only [slc, seqL, cutD_map]
  rw [this]
  exact ⟨_, [], q1, .o (.lst (Owns.pv e _)), r, .refl⟩
theorem we_slLp {m : W (List τ)} {lo hi : FO} {l u : Option Int} (h : WP Γ f m (gL (gM e))) (hl : WVo Γ lo l) (hu : WVo Γ hi u) : WE B Γ (fSl f lo hi) (m.bind fun xs => W.pure (cutL xs l u)) (gL (gM e)) (fun _ => Γ) := fun fr env st Q X r q => by
  obtain ⟨xs, rr, fv, h1, h2, h3⟩ := h env st _ X r.rd q
  have : fSl f lo hi env st = .ok (.o (.lst ((cutL xs l u).map fun x => (e x).d))) st := by
    unfold fSl
    rw [h2]; simp only [Out.bind_ok]
    rw [hl env st r.rd]; simp only [Out.bind_ok]
    rw [hu env st r.rd]; simp only [Out.bind_ok]
    rcases gL_casesP h3 with ⟨n, rfl, hn⟩ | rfl
    · simp only [slc, seqL, hn, cutD_map]
    · simp only [slc, seqL, cutD_map]
  rw [this]
  exact ⟨_, [], h1, .o (.lst (Owns.pv e _)), r, .refl⟩
/-- two names at once, by a tuple that is taken apart -/
theorem ws_asgT {g : FA} {m : W α} {as : α → List Arg} {g1 g2 : α → G} {Γ' : α → Sl} (h : WA B Γ g m as Γ') (ha : ∀ a, as a = [.own (g1 a), .own (g2 a)]) (hi : ∀ a, i < (Γ' a).length) (hj : ∀ a, j < (Γ' a).length) : WS B Γ (fAsg (tgT (tgCons (tgN i) (tgCons (tgN j) tgNil))) (fTup g)) m (fun a => .nx (((Γ' a).set i (sg (g1 a))).set j (sg (g2 a)))) := fun fr env st Q X r q => by
  have hx := h fr env st _ X r q
  unfold fAsg fTup
  generalize g env st = og at hx
  cases og with
  | ok ds s =>
    obtain ⟨a, fv, k1, k2, k3, k4⟩ := hx
    rw [ha] at k2
    cases k2 with
    | own w1 k2 =>
      cases k2 with
      | own w2 k2 =>
        cases k2
        rename_i d1 f1 d2 f2
        rw [List.append_nil] at k3
        simp only [Out.bind_ok]
        rw [if_pos (Nat.le_of_ble_eq_true rfl)]
        have k5 : Rel B (Γ' a) (f1 ++ (f2 ++ fr)) env s := by rwa [← List.append_assoc]
        have k6 := k5.assign (i := i) (o := none) (hi a) w1 (fun n e => nomatch e)
        have k7 := k6.assign (i := j) (o := none) (by rw [List.length_set]; exact hj a) w2 (fun n e => nomatch e)
        exact ⟨a, _, k1, rfl, k7, k4⟩
  | exc x s => exact hx
  | stuck => exact hx.elim

theorem ws_seqLp {σ ρ : Type} {s t : FS} {m : W (Lp σ ρ)} {Gm : σ → Sl} {v : ρ → G} {Γe : ρ → Sl} {kk : σ → W ε} {h' : ρ → ε} {J : ε → Fin} (h : WS B Γ s m (fun a => match a with | .next s => .nx (Gm s) | .ret r => .rt (v r) (Γe r))) (t' : ∀ a, WS B (Gm a) t (kk a) J) (hj : ∀ r, J (h' r) = .rt (v r) (Γe r)) :
    WS B Γ (fSeq s t) (W.lp m kk h') J := ws_seqL h t' hj
theorem ws_some {s : FS} {a : τ} {m : W ε} {kk : τ → W ε} {J : ε → Fin} (h : WS B Γ s (kk a) J) : WS B Γ s (W.opt (some a) m kk) J := h
theorem ws_none {s : FS} {m : W ε} {kk : τ → W ε} {J : ε → Fin} (h : WS B Γ s m J) : WS B Γ s (W.opt none m kk) J := h
theorem wp_some {a : τ} {m : W α} {kk : τ → W α} {v : α → G} (h : WP Γ f (kk a) v) : WP Γ f (W.opt (some a) m kk) v := h
theorem wp_none {m : W α} {kk : τ → W α} {v : α → G} (h : WP Γ f m v) : WP Γ f (W.opt none m kk) v := h
theorem we_some {a : τ} {m : W α} {kk : τ → W α} {v : α → G} {G1 : α → Sl} (h : WE B Γ f (kk a) v G1) : WE B Γ f (W.opt (some a) m kk) v G1 := h
theorem we_none {m : W α} {kk : τ → W α} {v : α → G} {G1 : α → Sl} (h : WE B Γ f m v G1) : WE B Γ f (W.opt none m kk) v G1 := h
theorem wp_nil {v : τ → G} : WP Γ (fLst fNil) (W.pure ([] : List τ)) (gL v) := fun env st Q X r q => ⟨[], .o (.lst []), [], q, rfl, .o (.lst .nil)⟩
theorem we_nil {v : τ → G} : WE B Γ (fLst fNil) (W.pure ([] : List τ)) (gL v) (fun _ => Γ) := fun fr env st Q X r q => by
  show OutP (Out.ok (R.o (O.lst [])) st) _ _
  exact ⟨[], [], q, .o (.lst .nil), r, .refl⟩

/-! ### lists that tell parts of others -/
def CPv (Γ : Sl) (tt : FB) (elt : FE) (m : W (Option β)) (v : β → G) : Prop := ∀ env st Q X, RdS Γ env st → m Q X → ∃ o, Q o ∧ match o with
  | none => tt env st = .ok false st
  | some y => tt env st = .ok true st ∧ ∃ d f, elt env st = .ok (.v d) st ∧ Own st (v y) d f
theorem cpv_y {elt : FE} {m : W β} {v : β → G} (hy : WP Γ elt m v) (hn : ∀ env st x s, elt env st ≠ .ok (.o x) s) : CPv Γ fYes elt (W.map some m) v := fun env st Q X r q => by
  obtain ⟨y, rr, fv, h1, h2, h3⟩ := hy env st _ X r q
  refine ⟨some y, h1, rfl, ?_⟩
  cases h3 with
  | v h => exact ⟨_, _, h2, h⟩
  | o h => exact absurd h2 (hn _ _ _ _)
theorem ix_val : ∀ env st x s, fBin gIx fa fb env st ≠ .ok (.o x) s := fun env st x s h => by
  unfold fBin at h
  generalize fa env st = o1 at h
  cases o1 with
  | ok a s1 =>
    simp only [Out.bind_ok] at h
    generalize fb env s1 = o2 at h
    cases o2 with
    | ok b s2 =>
      simp only [Out.bind_ok] at h
      unfold gIx at h
      split at h <;> cases h
    | exc _ _ => cases h
    | stuck => cases h
  | exc _ _ => cases h
  | stuck => cases h
theorem comp_pureR {tg : FG} {tt : FB} {elt : FE} {ok : Store → Prop} {Γx : τ → Sl} {Γw : Sl} {v : τ → G} {p : τ → W (Option β)} {vb : β → G} {e0 : Env} {st : Store} (hok : ok st) (h0 : RdS Γw e0 st) (ht : ∀ x, TR Γw tg (v x) (Γx x)) (hp : ∀ x, CPv (Γx x) tt elt (p x) vb) :
    ∀ (xs : List τ) (ds : List D) (f : List Nat) (acc : List D) (Q : List β → Prop) (X : Xc → Prop), Owns st (xs.map v) ds f → acc.length + ds.length ≤ 1000000 → W.comL' p xs Q X → ∃ ys zs fz, Q ys ∧ Owns st (ys.map vb) zs fz ∧ compL ok tg tt elt e0 ds acc st = .ok (.o (.lst (acc ++ zs))) st
  | [], ds, f, acc, Q, X, w, hl, q => by
    cases w
    refine ⟨[], [], [], q, .nil, ?_⟩
    unfold compL; rw [if_pos hok]; simp
  | x :: xs, ds, f, acc, Q, X, w, hl, q => by
    cases w with
    | cons w1 w2 =>
      obtain ⟨e1, t1, t2⟩ := ht x e0 st _ _ h0 w1
      obtain ⟨o, k1, k2⟩ := hp x e1 st _ (fun _ => False) t2 q
      simp only [List.length_cons] at hl
      unfold compL
      rw [if_pos hok, t1]
      cases o with
      | none =>
        simp only at k2
        simp only [k2, Out.nox, Out.bind, Bool.false_eq_true, if_false]
        obtain ⟨ys, zs, fz, q1, q2, q3⟩ := comp_pureR hok h0 ht hp xs _ _ acc _ X w2 (by omega) k1
        exact ⟨ys, zs, fz, q1, q2, q3⟩
      | some y =>
        obtain ⟨k2, d, fd, k3, k4⟩ := k2
        simp only [k2, k3, Out.nox, Out.bind, if_true, alloc_v]
        rw [if_pos (by omega)]
        obtain ⟨ys, zs, fz, q1, q2, q3⟩ := comp_pureR hok h0 ht hp xs _ _ (acc ++ [d]) _ X w2 (by simp; omega) k1
        exact ⟨y :: ys, d :: zs, fd ++ fz, q1, .cons k4 q2, by rw [q3]; simp⟩
theorem wp_compR {it : FI} {tg : FG} {tt : FB} {elt : FE} {m : W (List τ)} {v : τ → G} {own : List Nat} {Γx : τ → Sl} {p : τ → W (Option β)} {vb : β → G} (hi : WIp Γ it m v) (ht : ∀ x, TR (wipeG Γ own) tg (v x) (Γx x)) (hp : ∀ x, CPv (Γx x) tt elt (p x) vb) : WP Γ (fComp it tg tt elt own) (m.bind fun xs => W.comO p xs) (gL vb) := fun env st Q X r q => by
  obtain ⟨xs, qq, f, ⟨hl, h1⟩, h2, h3, h4⟩ := hi env st _ X r q
  have hlen := h3.length
  simp only [List.length_map] at hlen
  obtain ⟨ys, zs, fz, k1, kz, k2⟩ := comp_pureR h4 (rdS_wipe r own) ht hp xs qq.xs f [] Q X h3 (by simp; omega) h1
  refine ⟨ys, .o (.lst zs), fz, k1, ?_, .o (.lst kz)⟩
  rw [ev_comp h2, k2]; rfl
theorem ol_toP [DecidableEq τ] {m : Nat} {st : Store} (he : EqE e m) (hm : m ≤ 57) : ∀ {xs : List (Option (List τ))} {ds : List D} {f : List Nat}, Owns st (xs.map (gOL e)) ds f → ∃ ps : List PyData, (∀ n, 59 ≤ n → ds.mapM (D.toP st n) = some ps) ∧ ps.any (fun z => PyData.eqv z .none) = decide (none ∈ xs)
  | [], _, _, .nil => ⟨[], fun _ _ => rfl, by simp⟩
  | x :: xs, _, _, .cons (d := d) h t => by
    obtain ⟨ps, h1, h2⟩ := ol_toP he hm t
    cases x with
    | none =>
      obtain ⟨rfl, _⟩ := Own.im_inv h
      refine ⟨.none :: ps, fun n hn => ?_, ?_⟩
      · rw [List.mapM_cons, h1 n hn]
        obtain ⟨n', rfl⟩ : ∃ n', n = n' + 1 := ⟨n - 1, by omega⟩
        rfl
      · simp [PyData.eqv]
    | some ys =>
      obtain ⟨n2, ds2, f2, rfl, k1, k2, rfl⟩ := Own.lst_inv h
      obtain ⟨rfl, _⟩ := Owns.pv_inv k2
      have e2 : ∀ n, m ≤ n → (ys.map fun x => (e x).d).mapM (D.toP st n) = some ((ys.map e).map PV.pd) := fun n hn => by
        have := PV.toPs (st := st) (ys.map e) n (soks_map he ys) (Nat.le_trans (deps_map he ys) hn)
        rw [PV.ds_map, PV.pds_map, List.map_map] at this
        exact this
      refine ⟨.list ((ys.map e).map PV.pd) :: ps, fun n hn => ?_, ?_⟩
      · obtain ⟨n', rfl⟩ : ∃ n', n = n' + 1 := ⟨n - 1, by omega⟩
        rw [List.mapM_cons, h1 _ hn]
        simp only [D.toP, k1, e2 n' (by omega), Option.map_some]
        rfl
      · rw [List.any_cons, h2]
        simp [PyData.eqv]
theorem wp_notInN [DecidableEq τ] {m' : Nat} {m : W (List (Option (List τ)))} (he : EqE e m') (h : WP Γ f m (gL (gOL e))) (hm : m' ≤ 57 := by decide) : WP Γ (fBin gNotIn (fC .non) f) (m.bind fun xs => W.pure (!decide (none ∈ xs))) (gM eB) := fun env st Q X r q => by
  obtain ⟨xs, rr, fv, h1, h2, h3⟩ := h env st _ X r q
  refine ⟨_, .v (.bl (!decide (none ∈ xs))), [], h1, ?_, .v (.im (.bl _))⟩
  rw [ev_bin ev_c h2]
  have key : ∀ ds, seqL st rr = some ds → (∀ ts, rr ≠ .v (.tup ts)) → (∀ x, rr ≠ .v (.str x)) → (∃ f, Owns st (xs.map (gOL e)) ds f) → gNotIn (.v .non) rr st = .ok (.v (.bl (!decide (none ∈ xs)))) st := fun ds e1 e2 e3 ⟨f, w⟩ => by
    obtain ⟨ps, p1, p2⟩ := ol_toP he hm w
    have e4 : itemsP st rr = some ps := by
      unfold itemsP
      split
      · exact absurd rfl (e2 _)
      · rw [e1]; exact p1 60 (by decide)
    unfold gNotIn inP
    split
    · rename_i b hb
      split at hb
      · exact absurd rfl (e3 _)
      · rw [e4] at hb
        simp only [R.toP, D.toP, Option.map_some, Option.some.injEq] at hb
        rw [← hb, p2]
    · rename_i hb
      split at hb
      · exact absurd rfl (e3 _)
      · rw [e4] at hb
        cases hb
  cases h3 with
  | v h3 =>
    obtain ⟨n, ds, f', rfl, k1, k2, _⟩ := h3.lst_inv
    exact key ds (seqL_ref k1) (fun _ => by simp) (fun _ => by simp) ⟨_, k2⟩
  | o h3 =>
    cases h3 with
    | lst k2 => exact key _ rfl (fun _ => by simp) (fun _ => by simp) ⟨_, k2⟩
/-- values of all kinds, written -/
def reprXW (xs : List PV) : W Str := W.need (∀ p ∈ xs, p.sok = true ∧ p.dep ≤ 58) (reprW (.list (xs.map PV.pd)))
theorem soks_all : ∀ {xs : List PV}, (∀ p ∈ xs, p.sok = true ∧ p.dep ≤ 58) → PV.soks xs = true ∧ PV.deps xs ≤ 58
  | [], _ => ⟨rfl, Nat.zero_le _⟩
  | x :: xs, h => by
    obtain ⟨a, b⟩ := soks_all fun p hp => h p (List.mem_cons_of_mem _ hp)
    obtain ⟨c, d⟩ := h x List.mem_cons_self
    refine ⟨by rw [PV.soks, a, c]; rfl, ?_⟩
    rw [PV.deps]; omega
theorem op1_reprX : Op1W gRepr (gL (gM eX)) reprXW (gM eSt) := fun st xs ra f1 Q X h1 ⟨c, q⟩ => by
  obtain ⟨a, b⟩ := soks_all c
  have e2 : ∀ n, 58 ≤ n → (xs.map fun x => (eX x).d).mapM (D.toP st n) = some (xs.map PV.pd) := fun n hn => by
    have := PV.toPs (st := st) xs n a (Nat.le_trans b hn)
    rw [PV.ds_map, PV.pds_map] at this
    exact this
  refine repr_of (p := .list (xs.map PV.pd)) ?_ q
  cases h1 with
  | v h =>
    obtain ⟨n, ds, f', rfl, k1, k2, rfl⟩ := h.lst_inv
    obtain ⟨rfl, _⟩ := Owns.pv_inv k2
    show D.toP st 60 (.ref n) = _
    simp only [D.toP, k1, e2 59 (by decide), Option.map_some]
  | o h =>
    cases h with
    | lst k2 =>
      obtain ⟨rfl, _⟩ := Owns.pv_inv k2
      show (List.mapM (D.toP st 60) _).map PyData.list = _
      rw [e2 60 (by decide)]; rfl
end

/-! ### a drawn order -/
section
variable {B : List O → Prop} {Fd : FF} {τ : Type} [DecidableEq τ] {e : τ → PV} {n : Nat}
def mixedW (xs : List τ) : W (List τ) :=
  (W.bind (W.bind (idW xs) fun y_1 => (W.bind (W.pure ([] : List τ)) fun y_2 => W.pure (y_1, y_2))) fun a_3 => (W.bind (W.whileN (fun s => (W.pure (!decide (s.2 = ([] : List τ))))) (fun s => (W.map (fun item => ((s.1 ++ [item.1]), item.2)) (W.bind (W.bind (drawW (((s.2.length : Int)))) fun y_4 => popAtW s.2 y_4) fun y_5 => appK s.1 y_5))) (a_3.2, a_3.1)) fun s => (W.pure s.1)))
noncomputable def mixB (Fd : FF) : FS := (fSeq (fPar 2 3 (fCons (fCall1 gList (fName 1)) (fCons (fLst fNil) fNil))) (fSeq (fWhile (fTrue (fBin gNe (fName 2) (fLst fNil))) (fExpr (fMeth1 gAppend (fName 3) (fMeth1 gPopAt (fName 2) (fCall Fd (fCons (fName 0) (fCons (fCall1 gLen (fName 2)) fNil))))))) (fRet (fName 3))))
theorem wf_mixed (hd : IsDraw B Fd) (he : EqE e n) (xs : List τ) (hn : n ≤ 58 := by decide) : WF B (mkF 4 (mixB Fd)) [G.bag, ((gL (gM e)) xs)] (mixedW xs) (gL (gM e)) (fun _ => [G.bag, ((gL (gM e)) xs)]) :=
  wf_of (n := 4) (body := mixB Fd) (fun os hl => match os, hl with
    | [o0, o1], _ => ⟨fun a => .rt ((gL (gM e)) a) ([none, some (o1, ((gL (gM e)) xs))]), fun _ => [none, some (o1, ((gL (gM e)) xs))], (show WS B [some (o0, G.bag), some (o1, ((gL (gM e)) xs)), none, none] (mixB Fd) (mixedW xs) (fun a => .rt ((gL (gM e)) a) ([none, some (o1, ((gL (gM e)) xs))])) from
      (ws_seq (ws_par (i := 2) (j := 3) (g1 := fun a_3 => ((gL (gM e)) a_3.1)) (g2 := fun a_3 => ((gL (gM e)) a_3.2)) (wa_ee (v := (gL (gM e))) (we_un1 (op1 := idW) (op1_listL (eb := e)) (wp_name (i := 1) (v := (gL (gM e))) (a := xs) rfl)) (fun _ => (wa_e (v := (gL (gM e))) (we_new (wp_lst (e := e) (xs := []) wvs_nil (Nat.le_of_ble_eq_true rfl)) lst_new) (fun _ => pa_nil)))) (fun _ => rfl) (fun _ => (Nat.le_of_ble_eq_true rfl)) (fun _ => (Nat.le_of_ble_eq_true rfl))) (fun a_3 => (ws_seq (ws_while (Gs := (fun (s : (List τ) × (List τ)) => [some (o0, G.bag), some (o1, ((gL (gM e)) xs)), some (none, ((gL (gM e)) s.2)), some (none, ((gL (gM e)) s.1))])) (s0 := (a_3.2, a_3.1)) (.yes (.yes (.yes (.yes .nil)))) (fun _ => rfl) (fun s => (wt_b (wb_v (wv_bin (ec := eB) (op := (fun xs ys => !decide (xs = ys))) (op2_neL he hn) (wp_name (i := 2) (v := (gL (gM e))) (a := s.2) rfl) (wp_lst (e := e) (xs := []) wvs_nil (Nat.le_of_ble_eq_true rfl)))))) (fun s => (ws_to (G2 := (fun (s : (List τ) × (List τ)) => [some (o0, G.bag), some (o1, ((gL (gM e)) xs)), some (none, ((gL (gM e)) s.2)), some (none, ((gL (gM e)) s.1))])) (h := fun item => ((s.1 ++ [item.1]), item.2)) (ws_expr (we_append' (v := (gM e)) (xs := s.1) (i := 3) (h := fun (p : (τ × List τ)) => p.1) rfl (we_popAt (e := e) (xs := s.2) (i := 2) rfl (we_callP (pa_bag (i := 0) rfl (pa_v (wv_un (ec := eI) (op := (fun xs => (xs.length : Int))) (op1_lenL (v := (gM e))) (wp_name (i := 2) (v := (gL (gM e))) (a := s.2) rfl)) pa_nil)) (.own (.own .nil)) (hd (((s.2.length : Int)))) (fun _ => (.own (.own .nil))) (fun _ => rfl))) (fun _ => rfl))) (fun item => (.yes (.yes (.yes (.yes .nil)))))))) (fun s => (ws_retR (v := (gL (gM e))) (Γe := fun _ => [none, some (o1, ((gL (gM e)) xs))]) (we_move (v := (gL (gM e))) (a := s.1) (i := 3) rfl) (fun _ => (.no (.yes .nil))))))))), fun _ => .inl rfl, fun _ => (.flat (.bag) (.obj (.lst _) .nil))⟩)
end
end Fx

set_option Elab.async false
set_option linter.all false
set_option maxRecDepth 100000
set_option maxHeartbeats 4000000
set_option autoImplicit false
/-! Fx, part Zl: plain tools for W. -/
namespace Fx
open PySem PySem.Spec PyProof.Rows L2
variable [BagAt]
/-- it ends well, with an answer that has P -/
def Sp {α : Type} (m : W α) (P : α → Prop) : Prop := ∀ (Q : α → Prop) (X : Xc → Prop), (∀ a, P a → Q a) → m Q X
section
variable {α β γ σ ρ τ : Type} {m : W α} {P P' : α → Prop} {R : β → Prop}
theorem W.pure_bind (a : α) (k : α → W β) : (W.pure a).bind k = k a := rfl
theorem W.bind_assoc (m : W α) (k : α → W β) (l : β → W γ) : (m.bind k).bind l = m.bind fun a => (k a).bind l := rfl
theorem W.map_eq (f : α → β) (m : W α) : W.map f m = m.bind fun a => W.pure (f a) := rfl
theorem W.bind_pure (m : W α) : (m.bind fun a => W.pure a) = m := rfl
theorem W.need_bind (p : Prop) (m : W α) (k : α → W β) : (W.need p m).bind k = W.need p (m.bind k) := rfl
theorem W.ite_bind (b : Bool) (m n : W α) (k : α → W β) : (W.ite b m n).bind k = W.ite b (m.bind k) (n.bind k) := by cases b <;> rfl
theorem W.ite_t (m n : W α) : W.ite true m n = m := rfl
theorem W.ite_f (m n : W α) : W.ite false m n = n := rfl
theorem Sp.use (h : Sp m P) {Q : α → Prop} {X : Xc → Prop} (k : ∀ a, P a → Q a) : m Q X := h Q X k
theorem sp_mono (h : Sp m P) (k : ∀ a, P a → P' a) : Sp m P' := fun Q X q => h Q X fun a pa => q a (k a pa)
theorem sp_bind {k : α → W β} (h : Sp m P) (hk : ∀ a, P a → Sp (k a) R) : Sp (m.bind k) R := fun Q X q => h _ X fun a pa => hk a pa Q X q
theorem sp_pure {a : α} (h : P a) : Sp (W.pure a) P := fun Q X q => q a h
theorem sp_need {p : Prop} (c : p) (h : Sp m P) : Sp (W.need p m) P := fun Q X q => ⟨c, h Q X q⟩
theorem sp_some {p : α → Prop} (h : ∀ a, p a → P a) : Sp (W.some p) P := fun Q X q a pa => q a (h a pa)
theorem sp_ofO {o : Option α} {a : α} (e : o = some a) (h : P a) : Sp (W.ofO o) P := fun Q X q => ⟨a, e, q a h⟩
theorem sp_map {f : α → β} (h : Sp m fun a => R (f a)) : Sp (W.map f m) R := fun Q X q => h _ X fun a pa => q _ pa
theorem sp_ite {b : Bool} {n : W α} (h : b = true → Sp m P) (k : b = false → Sp n P) : Sp (W.ite b m n) P := by
  cases b with
  | true => exact h rfl
  | false => exact k rfl
theorem sp_nox (h : Sp m P) : Sp (W.nox m) P := fun Q X q => h Q _ q
theorem sp_and (h : Sp m P) (k : ∀ a, P a → P' a → Prop) (_ : True) : True := trivial
theorem sp_forN {b : α → σ → W σ} {Pz : σ → Prop} (I : List α → σ → Prop) (hb : ∀ x xs s, I (x :: xs) s → Sp (b x s) (I xs)) (he : ∀ s, I [] s → Pz s) : ∀ (xs : List α) (s : σ), I xs s → Sp (W.forN b xs s) Pz
  | [], s, h => sp_pure (he s h)
  | x :: xs, s, h => sp_bind (hb x xs s h) fun s' h' => sp_forN I hb he xs s' h'
theorem sp_forC {b : α → σ → W (Ctl σ ρ)} {Pz : Lp σ ρ → Prop} (I : List α → σ → Prop) (hb : ∀ x xs s, I (x :: xs) s → Sp (b x s) fun c => match c with
    | .next s' => I xs s'
    | .cont s' => I xs s'
    | .brk s' => Pz (.next s')
    | .ret r => Pz (.ret r)) (he : ∀ s, I [] s → Pz (.next s)) : ∀ (xs : List α) (s : σ), I xs s → Sp (W.forC b xs s) Pz
  | [], s, h => sp_pure (he s h)
  | x :: xs, s, h => sp_bind (hb x xs s h) fun c h' => by
    cases c with
    | next s' => exact sp_forC I hb he xs s' h'
    | cont s' => exact sp_forC I hb he xs s' h'
    | brk s' => exact sp_pure h'
    | ret r => exact sp_pure h'
theorem sp_whileN {c : σ → W Bool} {b : σ → W σ} {Pz : σ → Prop} (I : σ → Prop) (μ : σ → Nat) (hc : ∀ s, I s → Sp (c s) fun t => if t = true then Sp (b s) (fun s' => I s' ∧ μ s' < μ s) else Pz s) {s : σ} (h : I s) : Sp (W.whileN c b s) Pz := fun Q X q => by
  refine ⟨μ s + 1, ?_⟩
  suffices key : ∀ (n : Nat) (s : σ), I s → μ s < n → Sp (W.whN c b n s) Pz from key _ s h (Nat.lt_succ_self _) Q X q
  intro n
  induction n with
  | zero => intro s _ hm; exact absurd hm (Nat.not_lt_zero _)
  | succ n ih =>
    intro s hs hm
    refine sp_bind (hc s hs) fun t ht => ?_
    cases t with
    | true =>
      rw [if_pos rfl] at ht
      exact (show Sp ((b s).bind fun s' => W.whN c b n s') Pz from sp_bind ht fun s' hs' => ih s' hs'.1 (by have := hs'.2; omega))
    | false => exact sp_pure (by rwa [if_neg (by decide)] at ht)
theorem sp_whileC {c : σ → W Bool} {b : σ → W (Ctl σ ρ)} {Pz : Lp σ ρ → Prop} (I : σ → Prop) (μ : σ → Nat) (hc : ∀ s, I s → Sp (c s) fun t => if t = true then Sp (b s) (fun r => match r with
    | .next s' => I s' ∧ μ s' < μ s
    | .cont s' => I s' ∧ μ s' < μ s
    | .brk s' => Pz (.next s')
    | .ret r => Pz (.ret r)) else Pz (.next s)) {s : σ} (h : I s) : Sp (W.whileC c b s) Pz := fun Q X q => by
  refine ⟨μ s + 1, ?_⟩
  suffices key : ∀ (n : Nat) (s : σ), I s → μ s < n → Sp (W.whC c b n s) Pz from key _ s h (Nat.lt_succ_self _) Q X q
  intro n
  induction n with
  | zero => intro s _ hm; exact absurd hm (Nat.not_lt_zero _)
  | succ n ih =>
    intro s hs hm
    refine sp_bind (hc s hs) fun t ht => ?_
    cases t with
    | true =>
      rw [if_pos rfl] at ht
      refine (show Sp ((b s).bind fun r => match r with
        | .next s' => W.whC c b n s'
        | .cont s' => W.whC c b n s'
        | .brk s' => W.pure (.next s')
        | .ret r => W.pure (.ret r)) Pz from sp_bind ht fun r hr => ?_)
      cases r with
      | next s' => exact ih s' hr.1 (by have := hr.2; omega)
      | cont s' => exact ih s' hr.1 (by have := hr.2; omega)
      | brk s' => exact sp_pure hr
      | ret r => exact sp_pure hr
    | false => exact sp_pure (by rwa [if_neg (by decide)] at ht)
theorem sp_lp {m : W (Lp σ ρ)} {k : σ → W α} {h : ρ → α} {Pl : Lp σ ρ → Prop} (hm : Sp m Pl) (hk : ∀ s, Pl (.next s) → Sp (k s) P) (hr : ∀ r, Pl (.ret r) → P (h r)) : Sp (W.lp m k h) P := sp_bind hm fun a pa => by
  cases a with
  | next s => exact hk s pa
  | ret r => exact sp_pure (hr r pa)
theorem sp_opt {o : Option τ} {k : τ → W α} (h : o = none → Sp m P) (hk : ∀ a, o = some a → Sp (k a) P) : Sp (W.opt o m k) P := by
  cases o with
  | none => exact h rfl
  | some a => exact hk a rfl
theorem sp_comF {p : α → Option β} {xs : List α} (hl : xs.length ≤ 1000000) : Sp (W.comF p xs) (fun ys => ys = xs.filterMap p) := sp_need hl (sp_pure rfl)
/-- each item tells what it comes to -/
theorem sp_comO {p : α → W (Option β)} (f : α → Option β) {xs : List α} (hl : xs.length ≤ 1000000) (h : ∀ x ∈ xs, Sp (p x) (fun o => o = f x)) : Sp (W.comO p xs) (fun ys => ys = xs.filterMap f) := by
  refine sp_need hl ?_
  have key : ∀ xs : List α, (∀ x ∈ xs, Sp (p x) (fun o => o = f x)) → Sp (W.comL' p xs) (fun ys => ys = xs.filterMap f) := by
    intro xs
    induction xs with
    | nil => intro _; exact sp_pure rfl
    | cons x xs ih =>
      intro h
      refine sp_bind (sp_nox (h x List.mem_cons_self)) fun o ho => ?_
      subst ho
      refine sp_bind (ih fun y hy => h y (List.mem_cons_of_mem _ hy)) fun ys hy => sp_pure ?_
      subst hy
      rw [List.filterMap_cons]
      cases f x <;> rfl
  exact key xs h
/-- what each item comes to has R, and there are no more than items -/
theorem sp_comR {p : α → W (Option β)} {xs : List α} (hl : xs.length ≤ 1000000) (h : ∀ x ∈ xs, Sp (p x) (fun o => ∀ y, o = some y → R y)) : Sp (W.comO p xs) (fun ys => ys.length ≤ xs.length ∧ ∀ y ∈ ys, R y) := by
  refine sp_need hl ?_
  have key : ∀ xs : List α, (∀ x ∈ xs, Sp (p x) (fun o => ∀ y, o = some y → R y)) → Sp (W.comL' p xs) (fun ys => ys.length ≤ xs.length ∧ ∀ y ∈ ys, R y) := by
    intro xs
    induction xs with
    | nil => intro _; exact sp_pure ⟨Nat.le_refl _, fun y hy => absurd hy (by simp)⟩
    | cons x xs ih =>
      intro h
      refine sp_bind (sp_nox (h x List.mem_cons_self)) fun o ho => ?_
      refine sp_bind (ih fun y hy => h y (List.mem_cons_of_mem _ hy)) fun ys ⟨h1, h2⟩ => sp_pure ?_
      cases o with
      | none => exact ⟨Nat.le_succ_of_le h1, h2⟩
      | some y =>
        refine ⟨Nat.succ_le_succ h1, fun z hz => ?_⟩
        rcases List.mem_cons.mp hz with e | e
        · rw [e]; exact ho y rfl
        · exact h2 z e
  exact key xs h
/-- one for each -/
inductive All2 {α β : Type} (R : α → β → Prop) : List α → List β → Prop
  | nil : All2 R [] []
  | cons {x : α} {y : β} {xs : List α} {ys : List β} (h : R x y) (t : All2 R xs ys) : All2 R (x :: xs) (y :: ys)
theorem All2.len {α β : Type} {R : α → β → Prop} : ∀ {xs : List α} {ys : List β}, All2 R xs ys → ys.length = xs.length
  | _, _, .nil => rfl
  | _, _, .cons _ t => congrArg (· + 1) t.len
theorem All2.mem {α β : Type} {R : α → β → Prop} : ∀ {xs : List α} {ys : List β}, All2 R xs ys → ∀ y ∈ ys, ∃ x ∈ xs, R x y
  | _, _, .nil, y, h => absurd h (by simp)
  | _, _, .cons h t, y, hy => by
    rcases List.mem_cons.mp hy with e | e
    · rw [e]; exact ⟨_, List.mem_cons_self, h⟩
    · obtain ⟨x, h1, h2⟩ := t.mem y e; exact ⟨x, List.mem_cons_of_mem _ h1, h2⟩
/-- one item for each -/
theorem sp_comA {p : α → W β} {xs : List α} {Rx : α → β → Prop} (hl : xs.length ≤ 1000000) (h : ∀ x ∈ xs, Sp (p x) (Rx x)) : Sp (W.comO (fun x => W.map some (p x)) xs) (fun ys => All2 Rx xs ys) := by
  refine sp_need hl ?_
  have key : ∀ xs : List α, (∀ x ∈ xs, Sp (p x) (Rx x)) → Sp (W.comL' (fun x => W.map some (p x)) xs) (fun ys => All2 Rx xs ys) := by
    intro xs
    induction xs with
    | nil => intro _; exact sp_pure .nil
    | cons x xs ih =>
      intro h
      refine sp_bind (P := fun o => ∃ y, o = some y ∧ Rx x y) (sp_nox (sp_map (sp_mono (h x List.mem_cons_self) fun a ha => ⟨a, rfl, ha⟩))) fun o ⟨y, ho, hy⟩ => ?_
      subst ho
      exact sp_bind (ih fun y hy => h y (List.mem_cons_of_mem _ hy)) fun ys h1 => sp_pure (.cons hy h1)
  exact key xs h
end
/-! ### draws -/
section
variable {τ : Type}
theorem sp_draw {many : Int} (h : 1 ≤ many ∧ many < 1073741824) : Sp (drawW many) (fun r => 0 ≤ r ∧ r < many) := sp_need h (sp_some fun _ a => a)
theorem atI_mem {xs : List τ} {k : Int} (h : 0 ≤ k ∧ k < xs.length) : ∃ a, atI xs k = some a ∧ a ∈ xs := by
  have hk : k.toNat < xs.length := by omega
  refine ⟨xs[k.toNat], ?_, List.getElem_mem hk⟩
  unfold atI ixN
  rw [if_pos h.1, if_pos (by omega)]
  exact List.getElem?_eq_getElem hk
theorem sp_pick {xs : List τ} (h : xs ≠ []) (hl : xs.length < 1073741824) : Sp (pickW xs) (fun a => a ∈ xs) := by
  have := List.length_pos_iff.mpr h
  refine sp_bind (sp_draw ⟨by omega, by omega⟩) fun k hk => ?_
  obtain ⟨a, h1, h2⟩ := atI_mem hk
  exact sp_ofO h1 h2
theorem erase_perm : ∀ (xs : List τ) (k : Nat) (h : k < xs.length), (xs[k] :: xs.eraseIdx k).Perm xs
  | x :: xs, 0, h => List.Perm.refl _
  | x :: xs, k + 1, h => by
    show (xs[k]'(by simpa using h) :: x :: xs.eraseIdx k).Perm (x :: xs)
    exact (List.Perm.swap x _ _).trans ((erase_perm xs k (by simpa using h)).cons x)
theorem popAtO_perm {xs : List τ} {k : Int} (h : 0 ≤ k ∧ k < xs.length) : ∃ a ys, popAtO xs k = some (a, ys) ∧ (a :: ys).Perm xs := by
  have hk : k.toNat < xs.length := by omega
  refine ⟨xs[k.toNat], xs.eraseIdx k.toNat, ?_, erase_perm xs _ hk⟩
  unfold popAtO ixN
  rw [if_pos h.1, if_pos (by omega)]
  simp only [Option.bind_some, List.getElem?_eq_getElem hk, Option.map_some]
theorem sp_mixed [DecidableEq τ] {xs : List τ} (hl : xs.length < 1000000) : Sp (mixedW xs) (fun ys => ys.Perm xs) := by
  unfold mixedW idW
  simp only [W.pure_bind]
  refine sp_bind (P := fun s => s.1.Perm xs) (sp_whileN (I := fun s => (s.1 ++ s.2).Perm xs) (μ := fun s => s.2.length) (fun s hs => sp_pure ?_) (show ([] ++ xs : List τ).Perm xs from List.Perm.refl _)) fun s hs => sp_pure hs
  have hlen : s.1.length + s.2.length = xs.length := by rw [← List.length_append]; exact hs.length_eq
  by_cases e : s.2 = []
  · simp only [e, decide_true, Bool.not_true, Bool.false_eq_true, if_false]
    rw [e, List.append_nil] at hs
    exact hs
  · simp only [e, decide_false, Bool.not_false, if_true]
    have := List.length_pos_iff.mpr e
    refine sp_map (sp_bind (P := fun p => (p.1 :: p.2).Perm s.2) (sp_bind (sp_draw ⟨by omega, by omega⟩) fun k hk => sp_need (by omega) ?_) fun p hp => sp_need (by omega) (sp_pure ?_))
    · obtain ⟨a, ys, h1, h2⟩ := popAtO_perm hk
      exact sp_ofO h1 h2
    · refine ⟨?_, ?_⟩
      · show ((s.1 ++ [p.1]) ++ p.2).Perm xs
        rw [List.append_assoc]
        exact (hp.append_left s.1).trans hs
      · have := hp.length_eq
        simp only [List.length_cons] at this
        show p.2.length < s.2.length
        omega
end
/-! ### texts of values -/
structure Gd (k : Nat) (t : Str) : Prop where
  len : t.length ≤ k
  ok : PyData.strOk t = true
theorem gd_mono {j k : Nat} {t : Str} (g : Gd j t) (h : j ≤ k) : Gd k t := ⟨Nat.le_trans g.len h, g.ok⟩
theorem gd_app {a b : Nat} {x y : Str} (g : Gd a x) (h : Gd b y) : Gd (a + b) (x ++ y) := by
  refine ⟨by rw [strLen_append]; have := g.len; have := h.len; omega, ?_⟩
  have h1 := g.ok
  have h2 := h.ok
  unfold PyData.strOk at *
  show (x.cps ++ y.cps).all _ = true
  rw [Array.all_append, h1, h2]; rfl
theorem gd_int {i : Int} (h : 0 ≤ i ∧ i < 100) : Gd 3 (PyData.shown (.int i)) := by
  have key : ∀ k : _root_.Fin 100, (PyData.shown (.int ((k.val : Nat) : Int))).length ≤ 3 ∧ PyData.strOk (PyData.shown (.int ((k.val : Nat) : Int))) = true := by decide +kernel
  have := key ⟨i.toNat, by omega⟩
  simp only at this
  rw [show ((i.toNat : Nat) : Int) = i by omega] at this
  exact ⟨this.1, this.2⟩
theorem gd_bool (b : Bool) : Gd 5 (PyData.shown (.bool b)) := by
  cases b <;> exact ⟨by decide +kernel, by decide +kernel⟩
theorem shownAll_map (xs : List PyData) : PyData.shownAll xs = xs.map PyData.shown := by
  induction xs with
  | nil => rfl
  | cons x xs ih => simp only [PyData.shownAll, List.map_cons, ih]
mutual
/-- values of small numbers -/
def PV.tame : PV → Prop
  | .non => True
  | .bl _ => True
  | .int i => 0 ≤ i ∧ i < 100
  | .str _ => False
  | .tup xs => PV.tames xs
def PV.tames : List PV → Prop
  | [] => True
  | p :: ps => p.tame ∧ PV.tames ps
end
mutual
def PV.sz : PV → Nat
  | .non => 1
  | .bl _ => 1
  | .int _ => 1
  | .str _ => 1
  | .tup xs => 1 + PV.szs xs
def PV.szs : List PV → Nat
  | [] => 0
  | p :: ps => p.sz + PV.szs ps
end
theorem PV.tames_iff : ∀ {ps : List PV}, PV.tames ps ↔ ∀ p ∈ ps, p.tame
  | [] => by simp [PV.tames]
  | p :: ps => by simp [PV.tames, PV.tames_iff (ps := ps)]
theorem PV.sz_pos : ∀ p : PV, 1 ≤ p.sz
  | .non => Nat.le_refl _
  | .bl _ => Nat.le_refl _
  | .int _ => Nat.le_refl _
  | .str _ => Nat.le_refl _
  | .tup xs => by rw [PV.sz]; omega
mutual
theorem PV.dep_sz : ∀ p : PV, p.dep ≤ p.sz
  | .non => Nat.le_refl _
  | .bl _ => Nat.le_refl _
  | .int _ => Nat.le_refl _
  | .str _ => Nat.le_refl _
  | .tup xs => by have := PV.deps_szs xs; rw [PV.dep, PV.sz]; omega
theorem PV.deps_szs : ∀ ps : List PV, PV.deps ps ≤ PV.szs ps
  | [] => Nat.le_refl _
  | p :: ps => by
    have := p.dep_sz
    have := PV.deps_szs ps
    rw [PV.deps, PV.szs]; omega
end
theorem gd_joinS : ∀ ps : List PV, (∀ p ∈ ps, Gd (10 * p.sz - 3) p.pd.shown) → Gd (10 * PV.szs ps) (Str.join ", " (ps.map fun p => p.pd.shown))
  | [], _ => ⟨Nat.zero_le _, by decide +kernel⟩
  | [x], h => by
    have g := h x (by simp)
    exact gd_mono g (by rw [PV.szs, PV.szs]; omega)
  | x :: y :: r, h => by
    have ih := gd_joinS (y :: r) fun t ht => h t (List.mem_cons_of_mem _ ht)
    have g := h x (by simp)
    have c : Gd 2 (", " : String) := ⟨by decide +kernel, by decide +kernel⟩
    have hp := x.sz_pos
    refine gd_mono (gd_app (gd_app g c) ih) ?_
    rw [show PV.szs (x :: y :: r) = x.sz + PV.szs (y :: r) from rfl]
    omega
theorem gd_fromS : ∀ (ps : List PV) (i a : Nat) (acc : Str), (∀ p ∈ ps, Gd (10 * p.sz - 3) p.pd.shown) → Gd a acc → Gd (a + 10 * PV.szs ps) (textFrom i acc (ps.map fun p => p.pd.shown))
  | [], i, a, acc, _, g => by unfold textFrom; exact gd_mono g (by simp)
  | t :: ts, i, a, acc, h, g => by
    rw [List.map_cons]
    unfold textFrom
    have b : Gd 2 ((if i > 0 then ", " else "" : String) : Str) := by split <;> exact ⟨by decide +kernel, by decide +kernel⟩
    have g2 := gd_app (gd_app g b) (h t (by simp))
    have hp := t.sz_pos
    refine gd_mono (gd_fromS ts (i + 1) _ _ (fun u hu => h u (List.mem_cons_of_mem _ hu)) g2) ?_
    rw [show PV.szs (t :: ts) = t.sz + PV.szs ts from rfl]
    omega
mutual
theorem PV.tame_ok : ∀ p : PV, p.tame → p.sok = true ∧ p.pd.showable = true ∧ Gd (10 * p.sz - 3) p.pd.shown
  | .non, _ => ⟨rfl, rfl, by decide +kernel, by decide +kernel⟩
  | .bl b, _ => ⟨rfl, rfl, gd_mono (gd_bool b) (by rw [PV.sz]; omega)⟩
  | .int i, h => ⟨rfl, by
      have hi : 0 ≤ i ∧ i < 100 := h
      have : i.natAbs.log2 < 1920 := by
        have h1 : i.natAbs.log2 ≤ i.natAbs := Nat.log2_le_self _
        omega
      simp only [PV.pd, PyData.showable, decide_eq_true this], gd_mono (gd_int h) (by rw [PV.sz]; omega)⟩
  | .str x, h => h.elim
  | .tup xs, h => by
    obtain ⟨a, b, c⟩ := PV.tames_ok xs h
    refine ⟨a, ?_, ?_⟩
    · show PyData.showable (.tuple (PV.pds xs)) = true
      simp only [PyData.showable, b]
    · have e : (PV.tup xs).pd.shown = tupleText (xs.map fun p => p.pd.shown) := by
        show PyData.shown (.tuple (PV.pds xs)) = _
        simp only [PyData.shown, shownAll_map, PV.pds_map, List.map_map]
        rfl
      rw [e]
      unfold tupleText
      have a1 : Gd 1 ("(" : Str) := ⟨by decide +kernel, by decide +kernel⟩
      have b1 : Gd 2 ((if (xs.map fun p => p.pd.shown).length == 1 then ",)" else ")" : String) : Str) := by split <;> exact ⟨by decide +kernel, by decide +kernel⟩
      exact gd_mono (gd_app (gd_app a1 (gd_joinS xs c)) b1) (by rw [PV.sz]; omega)
theorem PV.tames_ok : ∀ ps : List PV, PV.tames ps → PV.soks ps = true ∧ PyData.showableAll (PV.pds ps) = true ∧ ∀ p ∈ ps, Gd (10 * p.sz - 3) p.pd.shown
  | [], _ => ⟨rfl, rfl, fun p hp => absurd hp (by simp)⟩
  | p :: ps, ⟨h1, h2⟩ => by
    obtain ⟨a, b, c⟩ := p.tame_ok h1
    obtain ⟨a', b', c'⟩ := PV.tames_ok ps h2
    refine ⟨by rw [PV.soks, a, a']; rfl, ?_, fun q hq => ?_⟩
    · simp only [PV.pds, PyData.showableAll, b, b', Bool.and_self]
    · rcases List.mem_cons.mp hq with e | e
      · rw [e]; exact c
      · exact c' q e
end
theorem sp_repr {p : PV} (h : p.tame) (hs : p.sz ≤ 90000) : Sp (reprW p.pd) (fun s => s = p.pd.shown) := by
  obtain ⟨_, b, c⟩ := p.tame_ok h
  exact sp_need ⟨b, Nat.le_trans c.len (by omega)⟩ (sp_pure rfl)
theorem list_shown (ps : List PV) (h : PV.tames ps) : (PyData.list (ps.map PV.pd)).showable = true ∧ Gd (10 * PV.szs ps + 2) (PyData.list (ps.map PV.pd)).shown := by
  obtain ⟨a, b, c⟩ := PV.tames_ok ps h
  rw [PV.pds_map] at b
  refine ⟨by simp only [PyData.showable, b], ?_⟩
  have e : (PyData.list (ps.map PV.pd)).shown = listText (ps.map fun p => p.pd.shown) := by
    simp only [PyData.shown, shownAll_map, List.map_map]
    rfl
  rw [e]
  unfold listText
  have a1 : Gd 1 ("[" : Str) := ⟨by decide +kernel, by decide +kernel⟩
  have b1 : Gd 1 ("]" : Str) := ⟨by decide +kernel, by decide +kernel⟩
  exact gd_mono (gd_app (gd_fromS ps 0 1 _ c a1) b1) (by omega)
theorem sp_reprL {ps : List PV} (h : PV.tames ps) (hs : PV.szs ps ≤ 90000) : Sp (reprW (.list (ps.map PV.pd))) (fun s => s = (PyData.list (ps.map PV.pd)).shown) := by
  obtain ⟨b, c⟩ := list_shown ps h
  exact sp_need ⟨b, Nat.le_trans c.len (by omega)⟩ (sp_pure rfl)
end Fx

set_option Elab.async false
set_option linter.all false
set_option maxRecDepth 100000
set_option maxHeartbeats 4000000
set_option autoImplicit false
/-! Fx, the urn: what the laws of lots draw of. -/
namespace Fx.Urn
open PySem PySem.Spec PyProof.Rows L2 Fx
instance : BagAt := ⟨2, 3, by decide⟩
noncomputable def uDraw : FS := (fSeq (fIfS (fTrue (fBin gLt (fName 1) (fC (.int 2)))) (fRet (fC (.int 0))) fSkip) (fSeq (fIfS (fTrue (fBin gNe (fBin gIx (fName 0) (fC (.str "deep"))) (fLst fNil))) (fSeq (fSet 3 (fMeth0 gPop (fBin gIx (fName 0) (fC (.str "deep"))))) (fSeq (fIfS (fTrue (fBin gGe (fName 3) (fName 1))) (fExpr (fMeth1 gAppend (fBin gIx (fName 0) (fC (.str "deep"))) (fBin gDiv (fName 3) (fName 1)))) fSkip) (fRet (fBin gMod (fCall1 gInt (fName 3)) (fName 1))))) fSkip) (fSeq (fPut (fBin gAdd (fBin gIx (fName 0) (fC (.str "count"))) (fC (.int 1))) (fName 0) (fC (.str "count"))) (fSeq (fSet 2 (fBin gMod (fCall1 gInt (fBin gAdd (fBin gIx (fName 0) (fC (.str "seed"))) (fBin gMul (fBin gIx (fName 0) (fC (.str "count"))) (fC (.int 747796405))))) (fC (.int 2147483647)))) (fSeq (fSet 2 (fBin gMod (fCall1 gInt (fBin gAdd (fBin gMul (fName 2) (fName 2)) (fBin gMul (fC (.int 362437)) (fBin gIx (fName 0) (fC (.str "count")))))) (fC (.int 2147483629)))) (fRet (fBin gMod (fBin gDiv (fBin gMod (fCall1 gInt (fBin gAdd (fBin gMul (fName 2) (fName 2)) (fBin gIx (fName 0) (fC (.str "seed"))))) (fC (.int 2147483587))) (fC (.int 64))) (fName 1))))))))
noncomputable def uUrnL : FS := (fSet 3 (fBin gMod (fCall1 gInt (fBin gAdd (fBin gAdd (fBin gMul (fName 3) (fC (.int 48271))) (fName 1)) (fC (.int 17)))) (fC (.int 2147483647))))
noncomputable def uUrn (c : Int) : FS := (fSeq (fPar 2 3 (fCons (fComp (fIt (fSl (fName 0) fNo (fPart (fC (.int 63))))) (tgN 1) fYes (fBin gAdd (fBin gMul (fC (.int 2)) (fCall1 gAbs (fName 1))) (fCall1 gInt (fBin gLt (fName 1) (fC (.int 0))))) [1]) (fCons (fBin gAdd (fC (.int c)) (fCall1 gLen (fSl (fName 0) fNo (fPart (fC (.int 63)))))) fNil))) (fSeq (fFor (fIt (fName 2)) (tgN 1) uUrnL) (fRet (fDisp [((fC (.str "deep")), (fComp (fIt (fName 2)) (tgN 1) (fTrue (fBin gGe (fName 1) (fBin gPow (fC (.int 10)) (fC (.int 15))))) (fName 1) [1])), ((fC (.str "seed")), (fName 3)), ((fC (.str "count")), (fC (.int 0)))]))))
def urnK (s t : Int) : List (Key × D) := [(.inr "deep", .ref 1), (.inr "seed", .int s), (.inr "count", .int t)]
def B : List O → Prop := fun os => ∃ (x : O) (deep : List Int) (s t : Int), os = [x, .lst (deep.map .int), .dK (urnK s t)] ∧ deep.length ≤ 1000
theorem gLt_int {st : Store} (a b : Int) : gLt (.v (.int a)) (.v (.int b)) st = .ok (.v (.bl (decide (a < b)))) st := rfl
theorem gGe_int {st : Store} (a b : Int) : gGe (.v (.int a)) (.v (.int b)) st = .ok (.v (.bl (decide (b ≤ a)))) st := rfl
theorem gNe_empty {st : Store} {m : Nat} (W : List Int) (h : st[m]? = some (.lst (W.map .int))) : gNe (.v (.ref m)) (.o (.lst [])) st = .ok (.v (.bl (!W.isEmpty))) st := by
  have e : R.toP st 60 (.v (.ref m)) = some (.list (W.map PyData.int)) := by
    simp only [R.toP, D.toP, h, mapM_ints, Option.map_some]
  have e2 : R.toP st 60 (.o (.lst [])) = some (.list []) := rfl
  simp only [gNe, e, e2]
  cases W with
  | nil => rfl
  | cons a W => rfl
theorem ok_bag {fr : List Nat} {st st' : Store} (k : Ok B fr st) (hl : st'.length = st.length) (hge : ∀ i, 3 ≤ i → st'[i]? = st[i]?) (hB : B (st'.take 3)) (hw : ∀ i o, i < 3 → st'[i]? = some o → OBl st'.length o) : Ok B fr st' ∧ Keep fr st st' := by
  refine ⟨⟨k.nd, fun n hn => ⟨(k.bd n hn).1, by rw [hl]; exact (k.bd n hn).2⟩, ⟨by rw [hl]; exact k.two, hB⟩, fun i o e => ?_⟩, by omega, fun n hn => hge n (k.bd n hn).1⟩
  by_cases h : i < 3
  · exact hw i o h e
  · rw [hge i (by omega)] at e
    rw [hl]; exact k.wf i o e
theorem ix_strK {st : Store} {n : Nat} {kvs : List (Key × D)} {x : Str} {d : D} (h : st[n]? = some (.dK kvs)) (hv : valD kvs (.inr x) = some d) : gIx (.v (.ref n)) (.v (.str x)) st = .ok (.v d) st := by
  have e : seqL st (.v (.ref n)) = none := by simp [seqL, h]
  unfold gIx idx
  simp only [e, Fx.dictGet, objOf_ref, h, D.key, Option.map_some, hv, Option.bind_some, id]
theorem g_modK {st : Store} (i j : Int) (h : 0 < j) : gMod (.v (.int i)) (.v (.int j)) st = .ok (.v (.int (i % j))) st := by
  show (if 0 < j then _ else _) = _
  rw [if_pos h]
theorem g_divK {st : Store} (i j : Int) (h : 0 < j ∧ j < 1073741824) : gDiv (.v (.int i)) (.v (.int j)) st = .ok (.v (.int (i / j))) st := by
  show (if 0 < j ∧ j < 1073741824 then _ else _) = _
  rw [if_pos h]
theorem g_addK {st : Store} (i j : Int) : gAdd (.v (.int i)) (.v (.int j)) st = .ok (.v (.int (i + j))) st := rfl
theorem g_mulK {st : Store} (i j : Int) (h : i.natAbs < 1000000000000000000 ∨ j.natAbs < 1000000000000000000) : gMul (.v (.int i)) (.v (.int j)) st = .ok (.v (.int (i * j))) st := by
  unfold gMul
  simp only
  rw [if_pos h]
theorem ev_intK {f : FE} {env : Fx.Env} {st st1 : Store} {i : Int} (h : f env st = .ok (.v (.int i)) st1) : fCall1 gInt f env st = .ok (.v (.int i)) st1 := by
  rw [ev_call1 h]; rfl
theorem small_mod {x m : Int} (h0 : 0 < m) (h1 : m ≤ 2147483647) : (x % m).natAbs < 1000000000000000000 := by
  have := Int.emod_nonneg x (show m ≠ 0 by omega)
  have := Int.emod_lt_of_pos x h0
  omega
section
variable {x : O} {deep : List Int} {s t many : Int} {tl : Store} {a b : Option D}
abbrev sU (x : O) (deep : List Int) (s t : Int) (tl : Store) : Store := x :: .lst (deep.map .int) :: .dK (urnK s t) :: tl
abbrev eU' (many : Int) (a b : Option D) : Fx.Env := [some (.ref 2), some (.int many), a, b]
theorem uDeep : (fBin gIx (fName 0) (fC (.str "deep"))) (eU' many a b) (sU x deep s t tl) = .ok (.v (.ref 1)) (sU x deep s t tl) := (ev_bin (ev_name rfl) ev_c).trans (ix_strK rfl rfl)
theorem uSeed : (fBin gIx (fName 0) (fC (.str "seed"))) (eU' many a b) (sU x deep s t tl) = .ok (.v (.int s)) (sU x deep s t tl) := (ev_bin (ev_name rfl) ev_c).trans (ix_strK rfl rfl)
theorem uCount : (fBin gIx (fName 0) (fC (.str "count"))) (eU' many a b) (sU x deep s t tl) = .ok (.v (.int t)) (sU x deep s t tl) := (ev_bin (ev_name rfl) ev_c).trans (ix_strK rfl rfl)
theorem uEmpty : (fTrue (fBin gNe (fBin gIx (fName 0) (fC (.str "deep"))) (fLst fNil))) (eU' many a b) (sU x deep s t tl) = .ok (!deep.isEmpty) (sU x deep s t tl) :=
  ev_true ((ev_bin uDeep (ev_lst ev_nil (by simp))).trans (gNe_empty deep rfl))
theorem draw_run (h1 : 1 ≤ many) (h2 : many < 1073741824) (hd : deep.length ≤ 1000) : ∃ (deep' : List Int) (t' r : Int), uDraw (eU' many a b) (sU x deep s t tl) = .ret (.v (.int r)) (sU x deep' s t' tl) ∧ deep'.length ≤ 1000 ∧ 0 ≤ r ∧ r < many := by
  have hmod : ∀ x : Int, 0 ≤ x % many ∧ x % many < many := fun x => ⟨Int.emod_nonneg _ (by omega), Int.emod_lt_of_pos _ (by omega)⟩
  unfold uDraw
  have c0 : (fTrue (fBin gLt (fName 1) (fC (.int 2)))) (eU' many a b) (sU x deep s t tl) = .ok (decide (many < 2)) (sU x deep s t tl) := ev_true ((ev_bin (ev_name rfl) ev_c).trans (gLt_int _ _))
  by_cases hm : many < 2
  · refine ⟨deep, t, 0, ?_, hd, Int.le_refl _, by omega⟩
    rw [ex_seqR (r := .v (.int 0)) (st1 := sU x deep s t tl) (by rw [ex_if c0, if_pos (by simpa using hm), ex_ret ev_c])]
  · rw [ex_seq (e1 := eU' many a b) (st1 := sU x deep s t tl) (by rw [ex_if c0, if_neg (by simpa using hm)]; rfl)]
    rcases List.eq_nil_or_concat deep with q | ⟨f', v, q⟩
    · subst q
      rw [ex_seq (e1 := eU' many a b) (st1 := sU x [] s t tl) (by rw [ex_if uEmpty]; rfl)]
      have p1 : fPut (fBin gAdd (fBin gIx (fName 0) (fC (.str "count"))) (fC (.int 1))) (fName 0) (fC (.str "count")) (eU' many a b) (sU x [] s t tl) = .next (eU' many a b) (sU x [] s (t + 1) tl) :=
        ex_put ((ev_bin uCount ev_c).trans (g_addK _ _)) (ev_name rfl) ev_c (by rfl)
      rw [ex_seq p1]
      rw [ex_seq (ex_set ((ev_bin (ev_intK ((ev_bin uSeed ((ev_bin uCount ev_c).trans (g_mulK _ _ (.inr (by decide))))).trans (g_addK _ _))) ev_c).trans (g_modK _ _ (by decide))))]
      generalize hone : (s + (t + 1) * 747796405) % 2147483647 = one
      have hone' : one.natAbs < 1000000000000000000 := by rw [← hone]; exact small_mod (by decide) (by decide)
      rw [show List.set (eU' many a b) 2 (some (D.int one)) = eU' many (some (.int one)) b from rfl]
      rw [ex_seq (ex_set ((ev_bin (ev_intK ((ev_bin ((ev_bin (ev_name rfl) (ev_name rfl)).trans (g_mulK _ _ (.inl hone'))) ((ev_bin ev_c uCount).trans (g_mulK _ _ (.inl (by decide))))).trans (g_addK _ _))) ev_c).trans (g_modK _ _ (by decide))))]
      generalize htwo : (one * one + 362437 * (t + 1)) % 2147483629 = two
      have htwo' : two.natAbs < 1000000000000000000 := by rw [← htwo]; exact small_mod (by decide) (by decide)
      rw [show List.set (eU' many (some (.int one)) b) 2 (some (D.int two)) = eU' many (some (.int two)) b from rfl]
      refine ⟨[], t + 1, (two * two + s) % 2147483587 / 64 % many, ?_, by decide, hmod _⟩
      exact ex_ret ((ev_bin ((ev_bin ((ev_bin (ev_intK ((ev_bin ((ev_bin (ev_name rfl) (ev_name rfl)).trans (g_mulK _ _ (.inl htwo'))) uSeed).trans (g_addK _ _))) ev_c).trans (g_modK _ _ (by decide))) ev_c).trans (g_divK _ _ (by decide))) (ev_name rfl)).trans (g_modK _ _ (by omega)))
    · have q' : deep = f' ++ [v] := by rw [q]; simp
      clear q
      subst q'
      simp only [List.length_append, List.length_cons, List.length_nil] at hd
      have p1 : fSet 3 (fMeth0 gPop (fBin gIx (fName 0) (fC (.str "deep")))) (eU' many a b) (sU x (f' ++ [v]) s t tl) = .next (eU' many a (some (.int v))) (sU x f' s t tl) := by
        have := pop_last (st := sU x (f' ++ [v]) s t tl) (n := 1) (xs := f'.map .int) (d := .int v) (by show some (O.lst _) = _; simp)
        rw [ex_set ((ev_meth0 uDeep (seqL_ref (show (sU x (f' ++ [v]) s t tl)[1]? = some (.lst _) from rfl))).trans this)]; rfl
      have c1 : (fTrue (fBin gGe (fName 3) (fName 1))) (eU' many a (some (.int v))) (sU x f' s t tl) = .ok (decide (many ≤ v)) (sU x f' s t tl) := ev_true ((ev_bin (ev_name rfl) (ev_name rfl)).trans (gGe_int _ _))
      have p2 : ∃ d2 : List Int, fIfS (fTrue (fBin gGe (fName 3) (fName 1))) (fExpr (fMeth1 gAppend (fBin gIx (fName 0) (fC (.str "deep"))) (fBin gDiv (fName 3) (fName 1)))) fSkip (eU' many a (some (.int v))) (sU x f' s t tl) = .next (eU' many a (some (.int v))) (sU x d2 s t tl) ∧ d2.length ≤ 1000 := by
        by_cases hv : many ≤ v
        · refine ⟨f' ++ [v / many], ?_, by simp; omega⟩
          rw [ex_if c1, if_pos (by simpa using hv)]
          have := app_int (st := sU x f' s t tl) (n := 1) (W := f') (v / many) rfl (by omega)
          exact ex_expr ((ev_meth1 uDeep (seqL_ref (show (sU x f' s t tl)[1]? = some (.lst _) from rfl)) ((ev_bin (ev_name rfl) (ev_name rfl)).trans (g_divK _ _ ⟨by omega, h2⟩))).trans this)
        · refine ⟨f', ?_, by omega⟩
          rw [ex_if c1, if_neg (by simpa using hv)]; rfl
      obtain ⟨d2, p2, hl2⟩ := p2
      have p3 : fRet (fBin gMod (fCall1 gInt (fName 3)) (fName 1)) (eU' many a (some (.int v))) (sU x d2 s t tl) = .ret (.v (.int (v % many))) (sU x d2 s t tl) :=
        ex_ret ((ev_bin (ev_intK (ev_name rfl)) (ev_name rfl)).trans (g_modK _ _ (by omega)))
      refine ⟨d2, t, v % many, ?_, hl2, hmod _⟩
      refine ex_seqR ?_
      rw [ex_if uEmpty, if_pos (by simp), ex_seq p1, ex_seq p2, p3]
end
theorem draw_ok : IsDraw B (mkF 4 uDraw) := fun many =>
  wf_of fun os hl => match os, hl with
    | [o0, o1], _ => ⟨fun a => .rt (gM eI a) [], fun _ => [], (show WS B [some (o0, .bag), some (o1, gM eI many), none, none] uDraw (drawW many) _ from fun fr env st Q X r ⟨⟨c1, c2⟩, q⟩ => by
      have two := r.two
      obtain ⟨fs, hr, k⟩ := r
      obtain ⟨a, b, rfl, rfl⟩ : ∃ a b, env = eU' many a b ∧ fs = [] := by
        cases hr with
        | yes h p t =>
          cases h with
          | obj _ o => cases o
          | bag =>
            cases t with
            | yes h p t =>
              obtain ⟨rfl, rfl⟩ := h.im_inv
              cases t with
              | no t =>
                cases t with
                | no t => cases t; exact ⟨_, _, rfl, rfl⟩
      obtain ⟨x, deep, s, t, hB, hd⟩ := k.inv.2
      obtain ⟨x0, x1, x2, tl, rfl⟩ : ∃ x0 x1 x2 tl, st = x0 :: x1 :: x2 :: tl := by
        match st, two with
        | x0 :: x1 :: x2 :: tl, _ => exact ⟨_, _, _, _, rfl⟩
        | [], h => exact absurd h (by decide)
        | [_], h => exact absurd (show 3 ≤ 1 from h) (by decide)
        | [_, _], h => exact absurd (show 3 ≤ 2 from h) (by decide)
      have hB' : [x0, x1, x2] = [x, O.lst (deep.map .int), O.dK (urnK s t)] := hB
      simp only [List.cons.injEq, and_true] at hB'
      obtain ⟨rfl, rfl, rfl⟩ := hB'
      obtain ⟨deep', t', res, e1, e2, e3, e4⟩ := draw_run (x := x0) (deep := deep) (s := s) (t := t) (tl := tl) (a := a) (b := b) c1 c2 hd
      rw [show uDraw (eU' many a b) (x0 :: O.lst (deep.map .int) :: O.dK (urnK s t) :: tl) = _ from e1]
      have hk := ok_bag (st' := sU x0 deep' s t' tl) k rfl (fun i hi => by
        match i, hi with
        | i + 3, _ => rfl) ⟨x0, deep', s, t', rfl, e2⟩ (fun i o hi e => by
        match i, hi with
        | 0, _ =>
          cases e
          exact k.wf 0 x0 rfl
        | 1, _ =>
          cases e
          exact bls_ints deep'
        | 2, _ =>
          cases e
          intro p hp
          unfold urnK at hp
          simp only [List.mem_cons, List.not_mem_nil, or_false] at hp
          rcases hp with q | q | q
          · rw [q]; exact .ref (by simp [sU])
          · rw [q]; exact .int _
          · rw [q]; exact .int _)
      exact ⟨res, _, [], [], [], q res ⟨e3, e4⟩, rfl, .v (.im (.int res)), ⟨[], .nil, hk.1⟩, hk.2⟩), fun _ => .inl rfl, fun _ => .flat0 .bag (.flat0 (.im _) .nil)⟩

/-! ### the urn at first -/
theorem cut_mapU (xs : List Int) (lo hi : Option Int) : cutD (xs.map .int) lo hi = (cutL xs lo hi).map .int := by
  unfold Fx.cutD cutL
  rw [List.map_take, List.map_drop, List.length_map]
theorem cut_lenU (xs : List Int) (lo hi : Option Int) : (cutL xs lo hi).length ≤ xs.length := by
  unfold cutL
  rw [List.length_take, List.length_drop]; omega
theorem ev_partU {f : FE} {env : Fx.Env} {st : Store} {i : Int} (h : f env st = .ok (.v (.int i)) st) : fPart f env st = .ok (some i) st := by
  unfold fPart; rw [h]; rfl
theorem cut_lzU {env : Fx.Env} {st : Store} {ns : List Int} (h : env[0]? = some (some (.lz (ns.map .int)))) : (fSl (fName 0) fNo (fPart (fC (.int 63)))) env st = .ok (.o (.lst ((cutL ns none (some 63)).map .int))) st := by
  unfold fSl
  rw [ev_name h]
  have h2 : (fPart (fC (.int 63))) env st = .ok (some 63) st := ev_partU ev_c
  simp only [Out.bind, fNo, h2]
  unfold slc
  simp only [seqL, cut_mapU]
def vU (v : Int) : Int := 2 * (if v < 0 then -v else v) + (if v < 0 then 1 else 0)
theorem urn_ok (c : Int) (ns : List Int) (hl : ns.length ≤ 63) : ∃ (cells deep : List Int) (s : Int), mkF 4 (uUrn c) [.lz (ns.map .int)] [] = .ok (.o (.dK (urnK s 0))) [.lst (cells.map .int), .lst (deep.map .int)] ∧ deep.length ≤ 1000 := by
  let e0 : Fx.Env := [some (.lz (ns.map .int)), none, none, none]
  have e : mkF 4 (uUrn c) [.lz (ns.map .int)] [] = gc [] (retOf (uUrn c e0 [])) := rfl
  have hc := cut_lenU ns none (some 63)
  have ab : ∀ (v : Int) (st : Store), gAbs (.v (.int v)) st = .ok (.v (.int (if v < 0 then -v else v))) st := fun v st => rfl
  have c1 := compL_pure (ok := Sq.any) (st := []) trivial (tg := tgN 1) (tt := fYes) (elt := fBin gAdd (fBin gMul (fC (.int 2)) (fCall1 gAbs (fName 1))) (fCall1 gInt (fBin gLt (fName 1) (fC (.int 0))))) (e0 := wipeE e0 [1])
    (fun _ => true) (fun d => match d with | .int v => .int (vU v) | _ => .non) ((cutL ns none (some 63)).map .int) [] (fun d hd => by
      obtain ⟨v, _, rfl⟩ := List.mem_map.mp hd
      refine ⟨[some (.lz (ns.map .int)), some (.int v), none, none], rfl, rfl, fun _ => ?_⟩
      have hb : (fCall1 gInt (fBin gLt (fName 1) (fC (.int 0)))) [some (.lz (ns.map .int)), some (.int v), none, none] [] = .ok (.v (.int (if v < 0 then 1 else 0))) [] := by
        rw [ev_call1 ((ev_bin (ev_name rfl) ev_c).trans (gLt_int v 0))]
        by_cases hv : v < 0
        · simp [hv, gInt]
        · simp [hv, gInt]
      exact (ev_bin ((ev_bin ev_c ((ev_call1 (ev_name rfl)).trans (ab _ _))).trans (g_mulK _ _ (.inl (by decide)))) hb).trans (g_addK _ _)) (by simp; omega)
  let cells : List Int := (cutL ns none (some 63)).map vU
  have hcells : ([] ++ (((cutL ns none (some 63)).map D.int).filter fun _ => true).map fun d => match d with | .int v => D.int (vU v) | _ => .non) = cells.map .int := by
    rw [List.nil_append, List.filter_eq_self.mpr (fun _ _ => rfl), List.map_map, List.map_map]
    rfl
  rw [hcells] at c1
  have hlc : cells.length ≤ 63 := by rw [List.length_map]; omega
  let e1 : Fx.Env := [some (.lz (ns.map .int)), none, some (.ref 0), some (.int (c + ((cutL ns none (some 63)).length : Int)))]
  have it0 : (fIt (fSl (fName 0) fNo (fPart (fC (.int 63))))) e0 [] = .ok ⟨(cutL ns none (some 63)).map .int, Sq.any⟩ [] := (ev_it (cut_lzU (ns := ns) rfl)).trans rfl
  have hlen : ∀ st : Store, (fCall1 gLen (fSl (fName 0) fNo (fPart (fC (.int 63))))) e0 st = .ok (.v (.int ((cutL ns none (some 63)).length : Int))) st := fun st => by
    rw [ev_call1 (cut_lzU (ns := ns) rfl)]; simp [gLen, seqL]
  have p1 : fPar 2 3 (fCons (fComp (fIt (fSl (fName 0) fNo (fPart (fC (.int 63))))) (tgN 1) fYes (fBin gAdd (fBin gMul (fC (.int 2)) (fCall1 gAbs (fName 1))) (fCall1 gInt (fBin gLt (fName 1) (fC (.int 0))))) [1]) (fCons (fBin gAdd (fC (.int c)) (fCall1 gLen (fSl (fName 0) fNo (fPart (fC (.int 63)))))) fNil)) e0 [] = .next e1 [.lst (cells.map .int)] := by
    exact ex_par (ev_consO ((ev_comp it0).trans c1) (ev_consV ((ev_bin ev_c (hlen _)).trans (g_addK _ _)) ev_nil))
  obtain ⟨e', s', k, ⟨m, x, rfl, rfl⟩, _⟩ := forL_inv (ok := Sq.at 0 (cells.map .int)) (tg := tgN 1) (body := uUrnL) (e0 := e1)
    (fun rest env s => (∃ m x, env = [some (.lz (ns.map .int)), x, some (.ref 0), some (.int m)] ∧ s = [.lst (cells.map .int)]) ∧ ∃ todo : List Int, rest = todo.map .int) (fun rest env s ⟨⟨m, x, h, h2⟩, _⟩ => ⟨by subst h2; rfl, by rw [h]; rfl⟩)
    (fun d rest env s ⟨⟨m, x, h1, h2⟩, todo, h3⟩ => by
      cases todo with
      | nil => simp at h3
      | cons v todo =>
        simp only [List.map_cons, List.cons.injEq] at h3
        obtain ⟨rfl, rfl⟩ := h3
        subst h1 h2
        have hb : uUrnL [some (.lz (ns.map .int)), some (.int v), some (.ref 0), some (.int m)] [.lst (cells.map .int)] = .next [some (.lz (ns.map .int)), some (.int v), some (.ref 0), some (.int ((m * 48271 + v + 17) % 2147483647))] [.lst (cells.map .int)] := by
          unfold uUrnL
          rw [ex_set ((ev_bin (ev_intK ((ev_bin ((ev_bin ((ev_bin (ev_name rfl) ev_c).trans (g_mulK _ _ (.inr (by decide)))) (ev_name rfl)).trans (g_addK _ _)) ev_c).trans (g_addK _ _))) ev_c).trans (g_modK _ _ (by decide)))]; rfl
        exact ⟨[some (.lz (ns.map .int)), some (.int v), some (.ref 0), some (.int m)], rfl, _, _, .inl hb, ⟨_, _, rfl, rfl⟩, todo, rfl⟩)
    (cells.map .int) e1 [.lst (cells.map .int)] ⟨⟨_, _, rfl, rfl⟩, _, rfl⟩
  have pw : ∀ st : Store, gPow (.v (.int 10)) (.v (.int 15)) st = .ok (.v (.int (10 ^ (15 : Int).toNat))) st := fun st => by
    unfold Fx.gPow gI
    simp only
    rw [if_pos (by decide)]
  let e2 : Fx.Env := [some (.lz (ns.map .int)), none, some (.ref 0), some (.int m)]
  have it2 : ∀ env : Fx.Env, env[2]? = some (some (.ref 0)) → (fIt (fName 2)) env [.lst (cells.map .int)] = .ok ⟨cells.map .int, Sq.at 0 (cells.map .int)⟩ [.lst (cells.map .int)] := fun env h => by
    rw [ev_it (ev_name h)]; rfl
  have c2 := compL_pure (ok := Sq.at 0 (cells.map .int)) (st := [.lst (cells.map .int)]) rfl (tg := tgN 1) (tt := fTrue (fBin gGe (fName 1) (fBin gPow (fC (.int 10)) (fC (.int 15))))) (elt := fName 1) (e0 := wipeE e2 [1])
    (fun d => match d with | .int v => decide ((10 : Int) ^ (15 : Int).toNat ≤ v) | _ => false) (fun d => d) (cells.map .int) [] (fun d hd => by
      obtain ⟨v, _, rfl⟩ := List.mem_map.mp hd
      refine ⟨[some (.lz (ns.map .int)), some (.int v), some (.ref 0), some (.int m)], rfl, ?_, fun _ => ev_name rfl⟩
      exact ev_true ((ev_bin (ev_name rfl) ((ev_bin ev_c ev_c).trans (pw _))).trans (gGe_int _ _))) (by simp; omega)
  have hdeep : ([] ++ (((cells.map D.int).filter fun d => match d with | .int v => decide ((10 : Int) ^ (15 : Int).toNat ≤ v) | _ => false).map fun d => d)) = (cells.filter fun v => decide ((10 : Int) ^ (15 : Int).toNat ≤ v)).map .int := by
    rw [List.nil_append, List.map_id', List.filter_map]
    rfl
  rw [hdeep] at c2
  refine ⟨cells, cells.filter fun v => decide ((10 : Int) ^ (15 : Int).toNat ≤ v), m, ?_, Nat.le_trans (List.length_filter_le _ _) (by omega)⟩
  generalize hg : cells.filter (fun v => decide ((10 : Int) ^ (15 : Int).toNat ≤ v)) = deep at c2 ⊢
  rw [e]
  unfold uUrn
  rw [ex_seq p1, ex_seq ((ex_for (it2 _ rfl)).trans k)]
  rw [show scope e1 [some (.lz (ns.map .int)), x, some (.ref 0), some (.int m)] = e2 from rfl]
  have hd : (fDisp [((fC (.str "deep")), (fComp (fIt (fName 2)) (tgN 1) (fTrue (fBin gGe (fName 1) (fBin gPow (fC (.int 10)) (fC (.int 15))))) (fName 1) [1])), ((fC (.str "seed")), (fName 3)), ((fC (.str "count")), (fC (.int 0)))]) e2 [.lst (cells.map .int)]
      = .ok (.o (.dK (urnK m 0))) [.lst (cells.map .int), .lst (deep.map .int)] := by
    have hfl : (fFlat [((fC (.str "deep")), (fComp (fIt (fName 2)) (tgN 1) (fTrue (fBin gGe (fName 1) (fBin gPow (fC (.int 10)) (fC (.int 15))))) (fName 1) [1])), ((fC (.str "seed")), (fName 3)), ((fC (.str "count")), (fC (.int 0)))]) e2 [.lst (cells.map .int)]
        = .ok [.str "deep", .ref 1, .str "seed", .int m, .str "count", .int 0] [.lst (cells.map .int), .lst (deep.map .int)] := by
      simp only [fFlat]
      exact ev_consV ev_c (ev_consO ((ev_comp (it2 _ rfl)).trans c2) (ev_consV ev_c (ev_consV (ev_name rfl) (ev_consV ev_c (ev_consV ev_c ev_nil)))))
    unfold fDisp
    rw [hfl]
    rfl
  rw [ex_ret hd]
  refine gc_newO' (st := []) (ex := [.lst (cells.map .int), .lst (deep.map .int)]) fun h => ?_
  have := h (.inr "deep", .ref 1) (by simp [urnK])
  cases this with
  | ref q => exact absurd q (by simp)
/-- the law's text behind its urn -/
theorem law_walk {c : Int} {n : Nat} {Fu : FF} {rest : FS} {m : W Bool} (hn : 2 ≤ n) (hu : Fu = mkF 4 (uUrn c)) (hw : WS B ([none, sg .bag] ++ List.replicate (n - 2) none) rest m (fun a => .rt (gM eB a) [])) (hm : m (fun a => a = true) (fun _ => False)) (ns : List Int) (hl : ns.length ≤ 63) :
    ∃ st', mkF n (fSeq (fSet 1 (fCall Fu (fCons (fName 0) fNil))) rest) [.lz (ns.map .int)] [] = .ok (.v (.bl true)) st' := by
  subst hu
  obtain ⟨cells, deep, s, h1, h2⟩ := urn_ok c ns hl
  obtain ⟨k, rfl⟩ : ∃ k, n = k + 2 := ⟨n - 2, by omega⟩
  let e0 : Fx.Env := some (.lz (ns.map .int)) :: none :: List.replicate k none
  let e1 : Fx.Env := some (.lz (ns.map .int)) :: some (.ref 2) :: List.replicate k none
  let st1 : Store := [.lst (cells.map .int), .lst (deep.map .int), .dK (urnK s 0)]
  have e : ∀ b : FS, mkF (k + 2) b [.lz (ns.map .int)] [] = gc [] (retOf (b e0 [])) := fun b => rfl
  have hb : (fCall (mkF 4 (uUrn c)) (fCons (fName 0) fNil)) e0 [] = .ok (.o (.dK (urnK s 0))) [.lst (cells.map .int), .lst (deep.map .int)] := by
    rw [ev_call (ev_consV (ev_name rfl) ev_nil) h1]
    refine gc_newO' (st := []) (ex := [.lst (cells.map .int), .lst (deep.map .int)]) fun h => ?_
    have := h (.inr "deep", .ref 1) (by simp [urnK])
    cases this with
    | ref q => exact absurd q (by simp)
  have p1 : fSet 1 (fCall (mkF 4 (uUrn c)) (fCons (fName 0) fNil)) e0 [] = .next e1 st1 := ex_setO (k := 1) hb
  have hr : Rel B ([none, sg .bag] ++ List.replicate (k + 2 - 2) none) [] e1 st1 := by
    refine ⟨[], ?_, List.nodup_nil, fun n hn => absurd hn (by simp), ⟨Nat.le_of_ble_eq_true rfl, .lst (cells.map .int), deep, s, 0, rfl, h2⟩, fun i o q => ?_⟩
    · show REs st1 (none :: some (none, .bag) :: List.replicate k none) (some _ :: some (.ref 2) :: List.replicate k none) ([] ++ ([] ++ []))
      refine .no (.yes .bag (fun _ h => nomatch h) ?_)
      have : ∀ k, REs st1 (List.replicate k none) (List.replicate k none) [] := by
        intro k
        induction k with
        | zero => exact .nil
        | succ k ih => exact .no ih
      exact this k
    · match i with
      | 0 => cases q; exact bls_ints cells
      | 1 => cases q; exact bls_ints deep
      | 2 =>
        cases q
        intro p hp
        unfold urnK at hp
        simp only [List.mem_cons, List.not_mem_nil, or_false] at hp
        rcases hp with q | q | q
        · rw [q]; exact .ref (Nat.le_of_ble_eq_true rfl)
        · rw [q]; exact .int _
        · rw [q]; exact .int _
      | _ + 3 => cases q
  have hs := hw [] e1 st1 _ _ hr hm
  rw [e, ex_seq p1]
  generalize rest e1 st1 = out at hs
  cases out with
  | ret r s1 =>
    obtain ⟨a, g, Γ1, fv, e9, q1, q2, q3, q4, _⟩ := hs
    cases q1
    cases q2
    obtain ⟨rfl, _⟩ := ROwn.tup_inv q3
    refine ⟨_, gc_take (st := []) ⟨Nat.zero_le _, fun i o h _ => absurd h (Nat.not_lt_zero _)⟩ (.bl true)⟩
  | next e s => obtain ⟨a, Γ1, _, q2, _⟩ := hs; cases q2
  | brk e s => obtain ⟨a, Γ1, _, q2, _⟩ := hs; cases q2
  | cont e s => obtain ⟨a, Γ1, _, q2, _⟩ := hs; cases q2
  | exc x e s => obtain ⟨_, _, z, _⟩ := hs; exact z.elim
  | stuck => exact hs.elim
end Fx.Urn

set_option Elab.async false
set_option linter.all false
set_option maxRecDepth 100000
set_option maxHeartbeats 4000000
set_option autoImplicit false
namespace K26
open PySem PySem.Spec PyProof.Rows L2 Fx
/-! ### the text: the defs of the row's top -/
def top (i : Nat) : Stmt := PySem.Challenge.pw_singlegates_k26_whole_the_least_lot_of_a.main.body.getD i (.Pass ⟨0, 0, 0, 0⟩)
abbrev FnP (K : PySem.W.Frag) (x : Str) (st : Stmt) (f : Addr) (fd : FuncData) : Prop := FunD K x x (defArgs st) (defBody st) (defScope st) [] [] f fd
abbrev s_wanted : Stmt := top 1
abbrev N_wanted : List Str := ["net", "standing", "counts", "found", "way", "station", "tracks", "further"]
theorem sc_wanted : FnScope N_wanted ["net", "standing"] (defScope s_wanted) := ⟨rfl, rfl, rfl, by decide +kernel, rfl, by decide +kernel, by decide +kernel⟩
abbrev s_closed_from : Stmt := top 2
abbrev N_closed_from : List Str := ["table", "station", "row", "at", "other"]
theorem sc_closed_from : FnScope N_closed_from ["table", "station"] (defScope s_closed_from) := ⟨rfl, rfl, rfl, by decide +kernel, rfl, by decide +kernel, by decide +kernel⟩
abbrev s_closure : Stmt := top 3
abbrev N_closure : List Str := ["net", "standing", "station"]
theorem sc_closure : FnScope N_closure ["net", "standing", "station"] (defScope s_closure) := ⟨rfl, rfl, rfl, by decide +kernel, rfl, by decide +kernel, by decide +kernel⟩
abbrev s_law_urn : Stmt := top 5
abbrev N_law_urn : List Str := ["script", "cell", "cells", "seed"]
theorem sc_law_urn : FnScope N_law_urn ["script"] (defScope s_law_urn) := ⟨rfl, rfl, rfl, by decide +kernel, rfl, by decide +kernel, by decide +kernel⟩
abbrev s_law_draw : Stmt := top 6
abbrev N_law_draw : List Str := ["urn", "many", "mixed", "cell"]
theorem sc_law_draw : FnScope N_law_draw ["urn", "many"] (defScope s_law_draw) := ⟨rfl, rfl, rfl, by decide +kernel, rfl, by decide +kernel, by decide +kernel⟩
abbrev s_law_pick : Stmt := top 7
abbrev N_law_pick : List Str := ["urn", "some"]
theorem sc_law_pick : FnScope N_law_pick ["urn", "some"] (defScope s_law_pick) := ⟨rfl, rfl, rfl, by decide +kernel, rfl, by decide +kernel, by decide +kernel⟩
abbrev s_law_mixed : Stmt := top 8
abbrev N_law_mixed : List Str := ["urn", "some", "rest", "found"]
theorem sc_law_mixed : FnScope N_law_mixed ["urn", "some"] (defScope s_law_mixed) := ⟨rfl, rfl, rfl, by decide +kernel, rfl, by decide +kernel, by decide +kernel⟩
abbrev s_law_rails : Stmt := top 9
abbrev N_law_rails : List Str := ["urn", "many", "i", "way", "found", "near", "most", "j"]
theorem sc_law_rails : FnScope N_law_rails ["urn", "many"] (defScope s_law_rails) := ⟨rfl, rfl, rfl, by decide +kernel, rfl, by decide +kernel, by decide +kernel⟩
abbrev s_law_path : Stmt := top 10
abbrev N_law_path : List Str := ["urn", "rails", "spot", "deep", "inner", "menu", "some", "every", "i", "j", "own"]
theorem sc_law_path : FnScope N_law_path ["urn", "rails", "spot", "deep", "inner"] (defScope s_law_path) := ⟨rfl, rfl, rfl, by decide +kernel, rfl, by decide +kernel, by decide +kernel⟩
abbrev s_law_loop : Stmt := top 11
abbrev N_law_loop : List Str := ["urn", "rails", "some", "seen", "turn", "menu", "own", "i", "j"]
theorem sc_law_loop : FnScope N_law_loop ["urn", "rails", "some"] (defScope s_law_loop) := ⟨rfl, rfl, rfl, by decide +kernel, rfl, by decide +kernel, by decide +kernel⟩
abbrev s_law_scene : Stmt := top 12
abbrev N_law_scene : List Str := ["urn", "rails", "one", "other", "every", "found", "spot", "room", "inner", "turn"]
theorem sc_law_scene : FnScope N_law_scene ["urn", "rails"] (defScope s_law_scene) := ⟨rfl, rfl, rfl, by decide +kernel, rfl, by decide +kernel, by decide +kernel⟩
abbrev s_law_needs : Stmt := top 13
abbrev N_law_needs : List Str := ["rails", "scene", "found", "spot", "room", "way", "is_open", "here", "wished", "own"]
theorem sc_law_needs : FnScope N_law_needs ["rails", "scene"] (defScope s_law_needs) := ⟨rfl, rfl, rfl, by decide +kernel, rfl, by decide +kernel, by decide +kernel⟩
abbrev s_law_lots : Stmt := top 14
abbrev N_law_lots : List Str := ["rails", "scene", "mask", "needs", "found", "spots", "spot", "own"]
theorem sc_law_lots : FnScope N_law_lots ["rails", "scene"] (defScope s_law_lots) := ⟨rfl, rfl, rfl, by decide +kernel, rfl, by decide +kernel, by decide +kernel⟩
abbrev s_law : Stmt := top 15
abbrev N_law : List Str := ["script", "urn", "turn", "rails", "scene", "spot", "lots", "kept", "holding", "least", "due", "told", "lot", "own"]
theorem sc_law : FnScope N_law ["script"] (defScope s_law) := ⟨rfl, rfl, rfl, by decide +kernel, rfl, by decide +kernel, by decide +kernel⟩
/-! ### what they do -/
noncomputable def L_wanted_1 : FS := (fIfS (fTrue (fBin gNotN (fName 4) (fC .non))) (fSeq (fAugS (fun i j => i + j) (fName 2) (fBin gIx (fName 4) (fC (.int 0))) (fC (.int 1))) (fIfS (fTrue (fBin gEq (fBin gIx (fName 4) (fC (.int 1))) (fTup fNil))) (fPut (fC .non) (fName 3) (fBin gIx (fName 4) (fC (.int 0)))) (fIfS (fTrue (fBin gNotN (fBin gIx (fName 3) (fBin gIx (fName 4) (fC (.int 0)))) (fC .non))) (fExpr (fMeth1 gExtend (fBin gIx (fName 3) (fBin gIx (fName 4) (fC (.int 0)))) (fComp (fIt (fBin gIx (fName 4) (fC (.int 1)))) (tgN 7) fYes (fBin gIx (fName 7) (fC (.int 0))) [7]))) fSkip))) fSkip)
noncomputable def L_wanted_2 : FS := (fIfS (fTrue (fBin gLt (fBin gIx (fName 2) (fName 5)) (fName 6))) (fPut (fC .non) (fName 3) (fName 5)) fSkip)
noncomputable def B_wanted : FS := (fSeq (fSet 2 (fBin gMul (fLst (fCons (fC (.int 0)) fNil)) (fCall1 gLen (fBin gIx (fName 0) (fC (.int 0)))))) (fSeq (fSet 3 (fComp (fIt (fBin gIx (fName 0) (fC (.int 0)))) (tgN 6) fYes (fLst fNil) [6])) (fSeq (fFor (fIt (fName 1)) (tgN 4) L_wanted_1) (fSeq (fFor (fEnum (fCons (fBin gIx (fName 0) (fC (.int 0))) fNil)) (tgT (tgCons (tgN 5) (tgCons (tgN 6) tgNil))) L_wanted_2) (fRet (fName 3))))))
noncomputable def F_wanted : FF := mkF 8 B_wanted
noncomputable def L_closed_from_1 : FS := (fIfS (fTrue (fBin gNotIn (fName 4) (fName 2))) (fExpr (fMeth1 gAppend (fName 2) (fName 4))) fSkip)
noncomputable def W_closed_from_1 : FS := (fSeq (fIfS (fTrue (fBin gIsN (fBin gIx (fName 0) (fBin gIx (fName 2) (fName 3))) (fC .non))) (fRet (fTup fNil)) fSkip) (fSeq (fFor (fIt (fBin gIx (fName 0) (fBin gIx (fName 2) (fName 3)))) (tgN 4) L_closed_from_1) (fAug (fun i j => i + j) 3 (fC (.int 1)))))
noncomputable def B_closed_from : FS := (fSeq (fSet 2 (fLst (fCons (fName 1) fNil))) (fSeq (fSet 3 (fC (.int 0))) (fSeq (fWhile (fTrue (fBin gLt (fName 3) (fCall1 gLen (fName 2)))) W_closed_from_1) (fRet (fCall1 gTuple (fCall1 gSortX (fName 2)))))))
noncomputable def F_closed_from : FF := mkF 5 B_closed_from
noncomputable def L_law_urn_1 : FS := (fSet 3 (fBin gMod (fCall1 gInt (fBin gAdd (fBin gAdd (fBin gMul (fName 3) (fC (.int 48271))) (fName 1)) (fC (.int 17)))) (fC (.int 2147483647))))
noncomputable def B_law_urn : FS := (fSeq (fPar 2 3 (fCons (fComp (fIt (fSl (fName 0) fNo (fPart (fC (.int 63))))) (tgN 1) fYes (fBin gAdd (fBin gMul (fC (.int 2)) (fCall1 gAbs (fName 1))) (fCall1 gInt (fBin gLt (fName 1) (fC (.int 0))))) [1]) (fCons (fBin gAdd (fC (.int 26102)) (fCall1 gLen (fSl (fName 0) fNo (fPart (fC (.int 63)))))) fNil))) (fSeq (fFor (fIt (fName 2)) (tgN 1) L_law_urn_1) (fRet (fDisp [((fC (.str "deep")), (fComp (fIt (fName 2)) (tgN 1) (fTrue (fBin gGe (fName 1) (fBin gPow (fC (.int 10)) (fC (.int 15))))) (fName 1) [1])), ((fC (.str "seed")), (fName 3)), ((fC (.str "count")), (fC (.int 0)))]))))
noncomputable def F_law_urn : FF := mkF 4 B_law_urn
noncomputable def B_law_draw : FS := (fSeq (fIfS (fTrue (fBin gLt (fName 1) (fC (.int 2)))) (fRet (fC (.int 0))) fSkip) (fSeq (fIfS (fTrue (fBin gNe (fBin gIx (fName 0) (fC (.str "deep"))) (fLst fNil))) (fSeq (fSet 3 (fMeth0 gPop (fBin gIx (fName 0) (fC (.str "deep"))))) (fSeq (fIfS (fTrue (fBin gGe (fName 3) (fName 1))) (fExpr (fMeth1 gAppend (fBin gIx (fName 0) (fC (.str "deep"))) (fBin gDiv (fName 3) (fName 1)))) fSkip) (fRet (fBin gMod (fCall1 gInt (fName 3)) (fName 1))))) fSkip) (fSeq (fPut (fBin gAdd (fBin gIx (fName 0) (fC (.str "count"))) (fC (.int 1))) (fName 0) (fC (.str "count"))) (fSeq (fSet 2 (fBin gMod (fCall1 gInt (fBin gAdd (fBin gIx (fName 0) (fC (.str "seed"))) (fBin gMul (fBin gIx (fName 0) (fC (.str "count"))) (fC (.int 747796405))))) (fC (.int 2147483647)))) (fSeq (fSet 2 (fBin gMod (fCall1 gInt (fBin gAdd (fBin gMul (fName 2) (fName 2)) (fBin gMul (fC (.int 362437)) (fBin gIx (fName 0) (fC (.str "count")))))) (fC (.int 2147483629)))) (fRet (fBin gMod (fBin gDiv (fBin gMod (fCall1 gInt (fBin gAdd (fBin gMul (fName 2) (fName 2)) (fBin gIx (fName 0) (fC (.str "seed"))))) (fC (.int 2147483587))) (fC (.int 64))) (fName 1))))))))
noncomputable def F_law_draw : FF := mkF 4 B_law_draw
noncomputable def L_law_needs_1 : FS := (fExpr (fMeth1 gExtend (fName 8) (fComp (fIt (fBin gIx (fName 5) (fC (.int 1)))) (tgN 9) fYes (fBin gIx (fName 9) (fC (.int 0))) [9])))
noncomputable def L_law_needs_2 : FS := (fSeq (fPar 7 8 (fCons (fComp (fIt (fName 1)) (tgN 5) (fAnd (fTrue (fBin gNotN (fName 5) (fC .non))) (fTrue (fBin gEq (fBin gIx (fName 5) (fC (.int 0))) (fName 3)))) (fName 5) [5]) (fCons (fLst fNil) fNil))) (fSeq (fFor (fIt (fName 7)) (tgN 5) L_law_needs_1) (fSeq (fSet 6 (fOrV (fBin gLt (fCall1 gLen (fName 7)) (fName 4)) (fBin gIn (fTup fNil) (fComp (fIt (fName 7)) (tgN 5) fYes (fBin gIx (fName 5) (fC (.int 1))) [5])))) (fExpr (fMeth1 gAppend (fName 2) (fIf (fTrue (fName 6)) (fC .non) (fCall1 gSortX (fCall1 gSetX (fName 8)))))))))
noncomputable def B_law_needs : FS := (fSeq (fSet 2 (fLst fNil)) (fSeq (fFor (fEnum (fCons (fBin gIx (fName 0) (fC (.int 0))) fNil)) (tgT (tgCons (tgN 3) (tgCons (tgN 4) tgNil))) L_law_needs_2) (fRet (fName 2))))
noncomputable def F_law_needs : FF := mkF 10 B_law_needs
noncomputable def B_closure : FS := (fRet (fCall F_closed_from (fCons (fCall F_wanted (fCons (fName 0) (fCons (fName 1) fNil))) (fCons (fName 2) fNil))))
noncomputable def F_closure : FF := mkF 3 B_closure
noncomputable def B_law_pick : FS := (fRet (fBin gIx (fName 1) (fCall F_law_draw (fCons (fName 0) (fCons (fCall1 gLen (fName 1)) fNil)))))
noncomputable def F_law_pick : FF := mkF 2 B_law_pick
noncomputable def W_law_mixed_1 : FS := (fExpr (fMeth1 gAppend (fName 3) (fMeth1 gPopAt (fName 2) (fCall F_law_draw (fCons (fName 0) (fCons (fCall1 gLen (fName 2)) fNil))))))
noncomputable def B_law_mixed : FS := (fSeq (fPar 2 3 (fCons (fCall1 gList (fName 1)) (fCons (fLst fNil) fNil))) (fSeq (fWhile (fTrue (fBin gNe (fName 2) (fLst fNil))) W_law_mixed_1) (fRet (fName 3))))
noncomputable def F_law_mixed : FF := mkF 4 B_law_mixed
noncomputable def L_law_lots_1 : FS := (fSeq (fSet 5 (fComp (fRng1 (fCall1 gLen (fName 3))) (tgN 6) (fTrue (fBin gEq (fBin gAnd (fBin gShr (fName 2) (fName 6)) (fC (.int 1))) (fC (.int 1)))) (fName 6) [6])) (fIfS (fTrue (fBin gNotIn (fC .non) (fComp (fIt (fName 5)) (tgN 6) fYes (fBin gIx (fName 3) (fName 6)) [6]))) (fIfS (fTrue (fBin gEq (fComp (fIt (fName 5)) (tgN 6) (fTrue (fBin gNe (fComp (fIt (fBin gIx (fName 3) (fName 6))) (tgN 7) (fTrue (fBin gNotIn (fName 7) (fName 5))) (fName 7) [7]) (fLst fNil))) (fName 6) [6]) (fLst fNil))) (fExpr (fMeth1 gAppend (fName 4) (fCall1 gTuple (fName 5)))) fSkip) fSkip))
noncomputable def B_law_lots : FS := (fSeq (fAsg (tgT (tgCons (tgN 3) (tgCons (tgN 4) tgNil))) (fTup (fCons (fCall F_law_needs (fCons (fName 0) (fCons (fName 1) fNil))) (fCons (fLst fNil) fNil)))) (fSeq (fFor (fRng2 (fC (.int 1)) (fBin gShl (fC (.int 1)) (fCall1 gLen (fName 3)))) (tgN 2) L_law_lots_1) (fRet (fCall1 gSortX (fName 4)))))
noncomputable def F_law_lots : FF := mkF 8 B_law_lots
noncomputable def L_law_rails_1 : FS := (fSeq (fSet 5 (fIf (fTrue (fBin gEq (fName 3) (fC (.int 0)))) (fComp (fIt (fTup (fCons (fBin gSub (fName 2) (fC (.int 1))) (fCons (fBin gAdd (fName 2) (fC (.int 1))) fNil)))) (tgN 7) (fTrue (fChain gLe gLt (fC (.int 0)) (fName 7) (fName 1))) (fName 7) [7]) (fLst (fCons (fBin gMod (fCall1 gInt (fBin gAdd (fName 2) (fC (.int 1)))) (fName 1)) fNil)))) (fSeq (fSet 5 (fIf (fTrue (fBin gEq (fName 3) (fC (.int 2)))) (fComp (fRng1 (fName 1)) (tgN 7) (fOr (fTrue (fBin gEq (fName 7) (fC (.int 0)))) (fTrue (fBin gEq (fName 2) (fC (.int 0))))) (fName 7) [7]) (fName 5))) (fSeq (fSet 5 (fIf (fTrue (fBin gEq (fName 3) (fC (.int 3)))) (fLst fNil) (fName 5))) (fSeq (fSet 6 (fIf (fTrue (fBin gEq (fName 3) (fC (.int 3)))) (fC (.int 3)) (fC (.int 7)))) (fExpr (fMeth1 gExtend (fName 4) (fComp (fRng1 (fName 1)) (tgN 7) (fAnd (fTrue (fBin gNe (fName 7) (fName 2))) (fOr (fTrue (fBin gIn (fName 7) (fName 5))) (fTrue (fBin gEq (fCall F_law_draw (fCons (fName 0) (fCons (fName 6) fNil))) (fC (.int 0)))))) (fTup (fCons (fName 2) (fCons (fName 7) fNil))) [7])))))))
noncomputable def B_law_rails : FS := (fSeq (fPar 3 4 (fCons (fCall F_law_draw (fCons (fName 0) (fCons (fC (.int 4)) fNil))) (fCons (fLst fNil) fNil))) (fSeq (fFor (fRng1 (fName 1)) (tgN 2) L_law_rails_1) (fRet (fTup (fCons (fCall1 gTuple (fComp (fRng1 (fName 1)) (tgN 2) fYes (fCall F_law_pick (fCons (fName 0) (fCons (fLst (fCons (fC (.int 1)) (fCons (fC (.int 1)) (fCons (fC (.int 1)) (fCons (fC (.int 2)) (fCons (fC (.int 2)) (fCons (fC (.int 3)) fNil))))))) fNil))) [2])) (fCons (fCall1 gTuple (fName 4)) fNil))))))
noncomputable def F_law_rails : FF := mkF 8 B_law_rails
noncomputable def L_law_loop_1 : FS := (fSeq (fSet 5 (fComp (fIt (fBin gIx (fName 1) (fC (.int 1)))) (tgT (tgCons (tgN 7) (tgCons (tgN 8) tgNil))) (fAnd (fTrue (fBin gEq (fName 7) (fBin gIx (fName 3) (fNeg (fC (.int 1)))))) (fTrue (fBin gIn (fName 8) (fName 2)))) (fName 8) [7, 8])) (fSeq (fIfS (fTrue (fBin gEq (fName 5) (fLst fNil))) (fRet (fLst fNil)) fSkip) (fSeq (fSet 6 (fCall F_law_pick (fCons (fName 0) (fCons (fName 5) fNil)))) (fSeq (fIfS (fTrue (fBin gIn (fName 6) (fName 3))) (fRet (fSl (fName 3) (fPart (fMeth1 gIndex (fName 3) (fName 6))) fNo)) fSkip) (fExpr (fMeth1 gAppend (fName 3) (fName 6)))))))
noncomputable def B_law_loop : FS := (fSeq (fSet 3 (fIf (fTrue (fBin gNe (fName 2) (fLst fNil))) (fLst (fCons (fCall F_law_pick (fCons (fName 0) (fCons (fName 2) fNil))) fNil)) (fLst fNil))) (fSeq (fFor (fRng1 (fCall1 gLen (fName 2))) (tgN 4) L_law_loop_1) (fRet (fLst fNil))))
noncomputable def F_law_loop : FF := mkF 9 B_law_loop
noncomputable def B_law_path (rec : FF) : FS := (fSeq (fSet 5 (fComp (fIt (fBin gIx (fName 1) (fC (.int 1)))) (tgT (tgCons (tgN 8) (tgCons (tgN 9) tgNil))) (fAnd (fTrue (fBin gEq (fName 8) (fName 2))) (fTrue (fBin gIn (fName 9) (fName 4)))) (fName 9) [8, 9])) (fSeq (fIfS (fOr (fTrue (fBin gEq (fName 3) (fC (.int 0)))) (fTrue (fBin gEq (fName 5) (fLst fNil)))) (fRet (fTup (fCons (fName 2) (fCons (fTup fNil) fNil)))) fSkip) (fSeq (fSet 6 (fCall1 gSortX (fSl (fCall F_law_mixed (fCons (fName 0) (fCons (fName 5) fNil))) fNo (fPart (fCall F_law_pick (fCons (fName 0) (fCons (fLst (fCons (fC (.int 1)) (fCons (fC (.int 1)) (fCons (fC (.int 1)) (fCons (fC (.int 2)) (fCons (fC (.int 3)) fNil)))))) fNil))))))) (fSeq (fSet 7 (fListRng1 (fCall1 gLen (fBin gIx (fName 1) (fC (.int 0)))))) (fRet (fTup (fCons (fName 2) (fCons (fCall1 gTuple (fComp (fIt (fName 6)) (tgN 10) fYes (fCall rec (fCons (fName 0) (fCons (fName 1) (fCons (fName 10) (fCons (fCall F_law_draw (fCons (fName 0) (fCons (fName 3) fNil))) (fCons (fName 7) fNil)))))) [10])) fNil))))))))
noncomputable def F_law_path : Nat → FF
  | 0 => fun _ _ => .stuck
  | k + 1 => mkF 11 (B_law_path (F_law_path k))
noncomputable def L_law_scene_1 : FS := (fIfS (fAnd (fTrue (fBin gNe (fName 8) (fLst fNil))) (fTrue (fBin gGt (fCall F_law_draw (fCons (fName 0) (fCons (fC (.int 20)) fNil))) (fC (.int 0))))) (fExpr (fMeth1 gAppend (fName 5) (fCall (F_law_path 8) (fCons (fName 0) (fCons (fName 1) (fCons (fName 6) (fCons (fBin gAdd (fC (.int 1)) (fCall F_law_draw (fCons (fName 0) (fCons (fC (.int 3)) fNil)))) (fCons (fName 8) fNil)))))))) (fExpr (fMeth1 gAppend (fName 5) (fCall (F_law_path 8) (fCons (fName 0) (fCons (fName 1) (fCons (fName 6) (fCons (fCall F_law_draw (fCons (fName 0) (fCons (fC (.int 4)) fNil))) (fCons (fName 4) fNil)))))))))
noncomputable def L_law_scene_2 : FS := (fSeq (fSet 8 (fIf (fTrue (fBin gIn (fName 6) (fName 2))) (fName 2) (fIf (fTrue (fBin gIn (fName 6) (fName 3))) (fName 3) (fIf (fTrue (fBin gEq (fCall F_law_draw (fCons (fName 0) (fCons (fC (.int 2)) fNil))) (fC (.int 0)))) (fBin gAdd (fName 2) (fName 3)) (fLst fNil))))) (fFor (fRng1 (fIf (fAnd (fTrue (fBin gNe (fName 8) (fLst fNil))) (fTrue (fBin gGt (fCall F_law_draw (fCons (fName 0) (fCons (fC (.int 12)) fNil))) (fC (.int 0))))) (fName 7) (fCall F_law_draw (fCons (fName 0) (fCons (fBin gAdd (fName 7) (fC (.int 1))) fNil))))) (tgN 9) L_law_scene_1))
noncomputable def B_law_scene : FS := (fSeq (fPar 4 5 (fCons (fListRng1 (fCall1 gLen (fBin gIx (fName 1) (fC (.int 0))))) (fCons (fLst fNil) fNil))) (fSeq (fSet 2 (fIf (fTrue (fBin gGt (fCall F_law_draw (fCons (fName 0) (fCons (fC (.int 5)) fNil))) (fC (.int 0)))) (fCall F_law_loop (fCons (fName 0) (fCons (fName 1) (fCons (fName 4) fNil)))) (fLst fNil))) (fSeq (fSet 3 (fCall F_law_loop (fCons (fName 0) (fCons (fName 1) (fCons (fComp (fIt (fName 4)) (tgN 6) (fTrue (fBin gNotIn (fName 6) (fName 2))) (fName 6) [6]) fNil))))) (fSeq (fFor (fEnum (fCons (fBin gIx (fName 1) (fC (.int 0))) fNil)) (tgT (tgCons (tgN 6) (tgCons (tgN 7) tgNil))) L_law_scene_2) (fRet (fCall1 gTuple (fCall F_law_mixed (fCons (fName 0) (fCons (fBin gAdd (fName 5) (fBin gMul (fLst (fCons (fC .non) fNil)) (fCall F_law_draw (fCons (fName 0) (fCons (fC (.int 3)) fNil))))) fNil)))))))))
noncomputable def F_law_scene : FF := mkF 10 B_law_scene
noncomputable def L_law_1 : FS := (fSeq (fSet 8 (fComp (fIt (fName 6)) (tgN 12) (fTrue (fBin gIn (fName 5) (fName 12))) (fName 12) [12])) (fSeq (fSet 9 (fIf (fTrue (fBin gNe (fName 8) (fLst fNil))) (fCall1 gMinL (fComp (fIt (fName 8)) (tgN 12) fYes (fCall1 gLen (fName 12)) [12])) (fC (.int 0)))) (fSeq (fSet 10 (fComp (fIt (fName 8)) (tgN 12) (fTrue (fBin gEq (fCall1 gLen (fName 12)) (fName 9))) (fName 12) [12])) (fSeq (fSet 11 (fIf (fTrue (fBin gEq (fName 5) (fName 2))) (fCallK F_closure [2, 1, 0] (fCons (fName 5) (fCons (fName 4) (fCons (fName 3) fNil)))) (fCall F_closure (fCons (fName 3) (fCons (fName 4) (fCons (fName 5) fNil)))))) (fSeq (fIfS (fTrue (fBin gNe (fCall1 gRepr (fLst (fCons (fName 11) fNil))) (fCall1 gRepr (fIf (fTrue (fBin gNe (fName 10) (fLst fNil))) (fName 10) (fLst (fCons (fTup fNil) fNil)))))) (fRet (fC (.bl false))) fSkip) (fSeq (fIfS (fTrue (fBin gNe (fComp (fIt (fName 8)) (tgN 12) (fTrue (fBin gNe (fComp (fIt (fName 11)) (tgN 13) (fTrue (fBin gNotIn (fName 13) (fName 12))) (fName 13) [13]) (fLst fNil))) (fName 12) [12]) (fLst fNil))) (fRet (fC (.bl false))) fSkip) (fIfS (fTrue (fBin gNe (fCall1 gRepr (fCall F_closure (fCons (fName 3) (fCons (fName 4) (fCons (fName 5) fNil))))) (fCall1 gRepr (fName 11)))) (fRet (fC (.bl false))) fSkip)))))))
noncomputable def L_law_2 : FS := (fSeq (fSet 3 (fCall F_law_rails (fCons (fName 1) (fCons (fBin gAdd (fC (.int 2)) (fCall F_law_draw (fCons (fName 1) (fCons (fC (.int 5)) fNil)))) fNil)))) (fSeq (fSet 4 (fCall F_law_scene (fCons (fName 1) (fCons (fName 3) fNil)))) (fSeq (fPar 6 7 (fCons (fCall F_law_lots (fCons (fName 3) (fCons (fName 4) fNil))) (fCons (fCall1 gRepr (fLst (fCons (fName 3) (fCons (fName 4) fNil)))) fNil))) (fSeq (fFor (fRng1 (fCall1 gLen (fBin gIx (fName 3) (fC (.int 0))))) (tgN 5) L_law_1) (fIfS (fTrue (fBin gNe (fCall1 gRepr (fLst (fCons (fName 3) (fCons (fName 4) fNil)))) (fName 7))) (fRet (fC (.bl false))) fSkip)))))
noncomputable def B_law : FS := (fSeq (fSet 1 (fCall F_law_urn (fCons (fName 0) fNil))) (fSeq (fFor (fRng1 (fC (.int 6))) (tgN 2) L_law_2) (fRet (fC (.bl true)))))
noncomputable def F_law : FF := mkF 14 B_law
end K26

set_option Elab.async false
set_option linter.all false
set_option maxRecDepth 100000
set_option maxHeartbeats 4000000
set_option autoImplicit false
namespace K26
open PySem PySem.Spec PyProof.Rows L2 Fx
/-! ### they do it -/
structure Tx (P : Program) (w : World) (K : PySem.W.Frag) (mg : Str → Option Value) (base : Heap) where
  f_wanted : Addr
  fd_wanted : FuncData
  D_wanted : FnP K "wanted" s_wanted f_wanted fd_wanted
  g_wanted : mg "wanted" = some (.ref f_wanted)
  b_wanted : Binds K fd_wanted ["net", "standing"] []
  f_closed_from : Addr
  fd_closed_from : FuncData
  D_closed_from : FnP K "closed_from" s_closed_from f_closed_from fd_closed_from
  g_closed_from : mg "closed_from" = some (.ref f_closed_from)
  b_closed_from : Binds K fd_closed_from ["table", "station"] []
  f_closure : Addr
  fd_closure : FuncData
  D_closure : FnP K "closure" s_closure f_closure fd_closure
  g_closure : mg "closure" = some (.ref f_closure)
  b_closure : Binds K fd_closure ["net", "standing", "station"] []
  f_law_urn : Addr
  fd_law_urn : FuncData
  D_law_urn : FnP K "_law_urn" s_law_urn f_law_urn fd_law_urn
  g_law_urn : mg "_law_urn" = some (.ref f_law_urn)
  b_law_urn : Binds K fd_law_urn ["script"] []
  f_law_draw : Addr
  fd_law_draw : FuncData
  D_law_draw : FnP K "_law_draw" s_law_draw f_law_draw fd_law_draw
  g_law_draw : mg "_law_draw" = some (.ref f_law_draw)
  b_law_draw : Binds K fd_law_draw ["urn", "many"] []
  f_law_pick : Addr
  fd_law_pick : FuncData
  D_law_pick : FnP K "_law_pick" s_law_pick f_law_pick fd_law_pick
  g_law_pick : mg "_law_pick" = some (.ref f_law_pick)
  b_law_pick : Binds K fd_law_pick ["urn", "some"] []
  f_law_mixed : Addr
  fd_law_mixed : FuncData
  D_law_mixed : FnP K "_law_mixed" s_law_mixed f_law_mixed fd_law_mixed
  g_law_mixed : mg "_law_mixed" = some (.ref f_law_mixed)
  b_law_mixed : Binds K fd_law_mixed ["urn", "some"] []
  f_law_rails : Addr
  fd_law_rails : FuncData
  D_law_rails : FnP K "_law_rails" s_law_rails f_law_rails fd_law_rails
  g_law_rails : mg "_law_rails" = some (.ref f_law_rails)
  b_law_rails : Binds K fd_law_rails ["urn", "many"] []
  f_law_path : Addr
  fd_law_path : FuncData
  D_law_path : FnP K "_law_path" s_law_path f_law_path fd_law_path
  g_law_path : mg "_law_path" = some (.ref f_law_path)
  b_law_path : Binds K fd_law_path ["urn", "rails", "spot", "deep", "inner"] []
  f_law_loop : Addr
  fd_law_loop : FuncData
  D_law_loop : FnP K "_law_loop" s_law_loop f_law_loop fd_law_loop
  g_law_loop : mg "_law_loop" = some (.ref f_law_loop)
  b_law_loop : Binds K fd_law_loop ["urn", "rails", "some"] []
  f_law_scene : Addr
  fd_law_scene : FuncData
  D_law_scene : FnP K "_law_scene" s_law_scene f_law_scene fd_law_scene
  g_law_scene : mg "_law_scene" = some (.ref f_law_scene)
  b_law_scene : Binds K fd_law_scene ["urn", "rails"] []
  f_law_needs : Addr
  fd_law_needs : FuncData
  D_law_needs : FnP K "_law_needs" s_law_needs f_law_needs fd_law_needs
  g_law_needs : mg "_law_needs" = some (.ref f_law_needs)
  b_law_needs : Binds K fd_law_needs ["rails", "scene"] []
  f_law_lots : Addr
  fd_law_lots : FuncData
  D_law_lots : FnP K "_law_lots" s_law_lots f_law_lots fd_law_lots
  g_law_lots : mg "_law_lots" = some (.ref f_law_lots)
  b_law_lots : Binds K fd_law_lots ["rails", "scene"] []
  f_law : Addr
  fd_law : FuncData
  D_law : FnP K "law" s_law f_law fd_law
  g_law : mg "law" = some (.ref f_law)
  b_law : Binds K fd_law ["script"] []
  k_closure_station_standing_net : ∀ (s : Shared) (us : List Value), us.length = 3 → BindsTo s fd_closure ⟨[], List.zip ["station", "standing", "net"] us⟩ (List.zip ["net", "standing", "station"] (pick [2, 1, 0] us))
  n_abs : mg "abs" = none
  n_enumerate : mg "enumerate" = none
  n_int : mg "int" = none
  n_len : mg "len" = none
  n_list : mg "list" = none
  n_min : mg "min" = none
  n_range : mg "range" = none
  n_repr : mg "repr" = none
  n_set : mg "set" = none
  n_sorted : mg "sorted" = none
  n_tuple : mg "tuple" = none
theorem pickLen_closure_station_standing_net : ∀ vs : List V, vs.length = 3 → (pick [2, 1, 0] vs).length = 3
  | [a0, a1, a2], _ => rfl
section
variable {P : Program} {w : World} {K : PySem.W.Frag} {mg : Str → Option Value} {base : Heap}
theorem ok_wanted (T : Tx P w K mg base) : FnG P w K mg base 1 T.f_wanted T.fd_wanted ["net", "standing"] F_wanted := by
  refine fnG_of T.D_wanted sc_wanted fun cdv A outer s H E B => ?_
  have C := B.cd
  have tk := B.tk
  have hr := B.rm
  have hp := B.pa
  exact (sss_cons (ss_set (i := 2) sc_wanted.nd rfl (by first | exact Or.inl rfl | exact Or.inr rfl) (bMul (se_lst (sa_cons se_int sa_nil)) (cLen rfl T.n_len (ix C (nv 0) se_int)))) (sss_cons (ss_setComp (i := 3) C.hc sc_wanted.nd rfl rfl rfl (si_seq (ix C (nv 0) se_int)) (blkOk_by (own := [("tracks", 6)]) (N := N_wanted) (sc := defScope s_wanted) (by decide +kernel)) (fun _ _ _ _ _ => (sc_name (i := 6) sc_wanted.nd rfl (by first | exact Or.inl rfl | exact Or.inr rfl) (by decide))) (fun _ _ _ _ _ => sts_nil) (fun _ _ _ _ _ => (se_lst sa_nil))) (sss_cons (ss_for hp C.hc (si_seq (nv 1)) (sg_name (i := 4) sc_wanted.nd rfl (by first | exact Or.inl rfl | exact Or.inr rfl)) (sss_one (ss_if (tIsNot (nv 4) se_non) (sss_cons (ss_augS C ip_add (nv 2) (ix C (nv 4) se_int) se_int) (sss_one (ss_if (tEq C (ix C (nv 4) se_int) (se_tup sa_nil)) (sss_one (ss_put C se_non (nv 3) (ix C (nv 4) se_int) (by intro _; rfl))) (sss_one (ss_if (tIsNot (ix C (nv 3) (ix C (nv 4) se_int)) se_non) (sss_one (ss_expr (se_extend (ix C (nv 3) (ix C (nv 4) se_int)) (se_comp C.hc sc_wanted.nd (si_seq (ix C (nv 4) se_int)) (blkOk_by (own := [("further", 7)]) (N := N_wanted) (sc := defScope s_wanted) (by decide +kernel)) (fun _ _ _ _ _ => (sc_name (i := 7) sc_wanted.nd rfl (by first | exact Or.inl rfl | exact Or.inr rfl) (by decide))) (fun _ _ _ _ _ => sts_nil) (fun _ _ _ _ _ => (ix (Cd.blk C) (nv 7) se_int)))))) sss_nil))))) sss_nil))) (sss_cons (ss_for hp C.hc (si_enum rfl T.n_enumerate (sa_cons (ix C (nv 0) se_int) sa_nil)) (sg_tup C.hc (sgs_cons (sg_name (i := 5) sc_wanted.nd rfl (by first | exact Or.inl rfl | exact Or.inr rfl)) (sgs_cons (sg_name (i := 6) sc_wanted.nd rfl (by first | exact Or.inl rfl | exact Or.inr rfl)) sgs_nil)) (len_cons (len_cons len_nil))) (sss_one (ss_if (tLt (ix C (nv 2) (nv 5)) (nv 6)) (sss_one (ss_put C se_non (nv 3) (nv 5) (by intro _; rfl))) sss_nil))) (sss_one (ss_ret (nv 3)))))))
theorem ok_closed_from (T : Tx P w K mg base) : FnG P w K mg base 1 T.f_closed_from T.fd_closed_from ["table", "station"] F_closed_from := by
  refine fnG_of T.D_closed_from sc_closed_from fun cdv A outer s H E B => ?_
  have C := B.cd
  have tk := B.tk
  have hr := B.rm
  have hp := B.pa
  exact (sss_cons (ss_set (i := 2) sc_closed_from.nd rfl (by first | exact Or.inl rfl | exact Or.inr rfl) (se_lst (sa_cons (nv 1) sa_nil))) (sss_cons (ss_set (i := 3) sc_closed_from.nd rfl (by first | exact Or.inl rfl | exact Or.inr rfl) se_int) (sss_cons (ss_while hp (tLt (nv 3) (cLen rfl T.n_len (nv 2))) (sss_cons (ss_if (tIs (ix C (nv 0) (ix C (nv 2) (nv 3))) se_non) (sss_one (ss_ret (se_tup sa_nil))) sss_nil) (sss_cons (ss_for hp C.hc (si_seq (ix C (nv 0) (ix C (nv 2) (nv 3)))) (sg_name (i := 4) sc_closed_from.nd rfl (by first | exact Or.inl rfl | exact Or.inr rfl)) (sss_one (ss_if (tNotIn C (nv 4) (nv 2)) (sss_one (ss_expr (se_append (nv 2) (nv 4)))) sss_nil))) (sss_one (ss_aug (i := 3) ip_add sc_closed_from.nd rfl (by first | exact Or.inl rfl | exact Or.inr rfl) se_int))))) (sss_one (ss_ret (cTuple rfl T.n_tuple (cSortX C rfl T.n_sorted (nv 2))))))))
theorem ok_law_urn (T : Tx P w K mg base) : FnG P w K mg base 1 T.f_law_urn T.fd_law_urn ["script"] F_law_urn := by
  refine fnG_of T.D_law_urn sc_law_urn fun cdv A outer s H E B => ?_
  have C := B.cd
  have tk := B.tk
  have hr := B.rm
  have hp := B.pa
  exact (sss_cons (ss_par (i := 2) (j := 3) C.hc sc_law_urn.nd rfl rfl (by decide) rfl rfl (sa_cons (se_comp C.hc sc_law_urn.nd (si_seq (se_sl (nv 0) so_none (so_some se_int))) (blkOk_by (own := [("cell", 1)]) (N := N_law_urn) (sc := defScope s_law_urn) (by decide +kernel)) (fun _ _ _ _ _ => (sc_name (i := 1) sc_law_urn.nd rfl (by first | exact Or.inl rfl | exact Or.inr rfl) (by decide))) (fun _ _ _ _ _ => sts_nil) (fun _ _ _ _ _ => (bAdd (bMul se_int (cAbs rfl T.n_abs (nv 1))) (cInt rfl T.n_int (qLt (nv 1) se_int))))) (sa_cons (bAdd se_int (cLen rfl T.n_len (se_sl (nv 0) so_none (so_some se_int)))) sa_nil)) rfl) (sss_cons (ss_for hp C.hc (si_seq (nv 2)) (sg_name (i := 1) sc_law_urn.nd rfl (by first | exact Or.inl rfl | exact Or.inr rfl)) (sss_one (ss_set (i := 3) sc_law_urn.nd rfl (by first | exact Or.inl rfl | exact Or.inr rfl) (bMod (cInt rfl T.n_int (bAdd (bAdd (bMul (nv 3) se_int) (nv 1)) se_int)) se_int)))) (sss_one (ss_ret (se_disp (sps_cons se_str (se_comp C.hc sc_law_urn.nd (si_seq (nv 2)) (blkOk_by (own := [("cell", 1)]) (N := N_law_urn) (sc := defScope s_law_urn) (by decide +kernel)) (fun _ _ _ _ _ => (sc_name (i := 1) sc_law_urn.nd rfl (by first | exact Or.inl rfl | exact Or.inr rfl) (by decide))) (fun _ _ _ _ _ => (sts_one (tGe (nv 1) (bPow se_int se_int)))) (fun _ _ _ _ _ => (nv 1))) (sps_cons se_str (nv 3) (sps_cons se_str se_int sps_nil))))))))
theorem ok_law_draw (T : Tx P w K mg base) : FnG P w K mg base 1 T.f_law_draw T.fd_law_draw ["urn", "many"] F_law_draw := by
  refine fnG_of T.D_law_draw sc_law_draw fun cdv A outer s H E B => ?_
  have C := B.cd
  have tk := B.tk
  have hr := B.rm
  have hp := B.pa
  exact (sss_cons (ss_if (tLt (nv 1) se_int) (sss_one (ss_ret se_int)) sss_nil) (sss_cons (ss_if (tNe C (ix C (nv 0) se_str) (se_lst sa_nil)) (sss_cons (ss_set (i := 3) sc_law_draw.nd rfl (by first | exact Or.inl rfl | exact Or.inr rfl) (se_pop (ix C (nv 0) se_str))) (sss_cons (ss_if (tGe (nv 3) (nv 1)) (sss_one (ss_expr (se_append (ix C (nv 0) se_str) (bDiv (nv 3) (nv 1))))) sss_nil) (sss_one (ss_ret (bMod (cInt rfl T.n_int (nv 3)) (nv 1)))))) sss_nil) (sss_cons (ss_put C (bAdd (ix C (nv 0) se_str) se_int) (nv 0) se_str (by intro _; rfl)) (sss_cons (ss_set (i := 2) sc_law_draw.nd rfl (by first | exact Or.inl rfl | exact Or.inr rfl) (bMod (cInt rfl T.n_int (bAdd (ix C (nv 0) se_str) (bMul (ix C (nv 0) se_str) se_int))) se_int)) (sss_cons (ss_set (i := 2) sc_law_draw.nd rfl (by first | exact Or.inl rfl | exact Or.inr rfl) (bMod (cInt rfl T.n_int (bAdd (bMul (nv 2) (nv 2)) (bMul se_int (ix C (nv 0) se_str)))) se_int)) (sss_one (ss_ret (bMod (bDiv (bMod (cInt rfl T.n_int (bAdd (bMul (nv 2) (nv 2)) (ix C (nv 0) se_str))) se_int) se_int) (nv 1)))))))))
theorem ok_law_needs (T : Tx P w K mg base) : FnG P w K mg base 1 T.f_law_needs T.fd_law_needs ["rails", "scene"] F_law_needs := by
  refine fnG_of T.D_law_needs sc_law_needs fun cdv A outer s H E B => ?_
  have C := B.cd
  have tk := B.tk
  have hr := B.rm
  have hp := B.pa
  exact (sss_cons (ss_set (i := 2) sc_law_needs.nd rfl (by first | exact Or.inl rfl | exact Or.inr rfl) (se_lst sa_nil)) (sss_cons (ss_for hp C.hc (si_enum rfl T.n_enumerate (sa_cons (ix C (nv 0) se_int) sa_nil)) (sg_tup C.hc (sgs_cons (sg_name (i := 3) sc_law_needs.nd rfl (by first | exact Or.inl rfl | exact Or.inr rfl)) (sgs_cons (sg_name (i := 4) sc_law_needs.nd rfl (by first | exact Or.inl rfl | exact Or.inr rfl)) sgs_nil)) (len_cons (len_cons len_nil))) (sss_cons (ss_par (i := 7) (j := 8) C.hc sc_law_needs.nd rfl rfl (by decide) rfl rfl (sa_cons (se_comp C.hc sc_law_needs.nd (si_seq (nv 1)) (blkOk_by (own := [("way", 5)]) (N := N_law_needs) (sc := defScope s_law_needs) (by decide +kernel)) (fun _ _ _ _ _ => (sc_name (i := 5) sc_law_needs.nd rfl (by first | exact Or.inl rfl | exact Or.inr rfl) (by decide))) (fun _ _ _ _ _ => (sts_one (sb_w (sbw_and (tIsNot (nv 5) se_non) (sbw_and1 (tEq (Cd.blk C) (ix (Cd.blk C) (nv 5) se_int) (nv 3))))))) (fun _ _ _ _ _ => (nv 5))) (sa_cons (se_lst sa_nil) sa_nil)) rfl) (sss_cons (ss_for hp C.hc (si_seq (nv 7)) (sg_name (i := 5) sc_law_needs.nd rfl (by first | exact Or.inl rfl | exact Or.inr rfl)) (sss_one (ss_expr (se_extend (nv 8) (se_comp C.hc sc_law_needs.nd (si_seq (ix C (nv 5) se_int)) (blkOk_by (own := [("own", 9)]) (N := N_law_needs) (sc := defScope s_law_needs) (by decide +kernel)) (fun _ _ _ _ _ => (sc_name (i := 9) sc_law_needs.nd rfl (by first | exact Or.inl rfl | exact Or.inr rfl) (by decide))) (fun _ _ _ _ _ => sts_nil) (fun _ _ _ _ _ => (ix (Cd.blk C) (nv 9) se_int))))))) (sss_cons (ss_set (i := 6) sc_law_needs.nd rfl (by first | exact Or.inl rfl | exact Or.inr rfl) (se_or (qLt (cLen rfl T.n_len (nv 7)) (nv 4)) (se_one (qIn C (se_tup sa_nil) (se_comp C.hc sc_law_needs.nd (si_seq (nv 7)) (blkOk_by (own := [("way", 5)]) (N := N_law_needs) (sc := defScope s_law_needs) (by decide +kernel)) (fun _ _ _ _ _ => (sc_name (i := 5) sc_law_needs.nd rfl (by first | exact Or.inl rfl | exact Or.inr rfl) (by decide))) (fun _ _ _ _ _ => sts_nil) (fun _ _ _ _ _ => (ix (Cd.blk C) (nv 5) se_int))))))) (sss_one (ss_expr (se_append (nv 2) (se_if (sb_val (nv 6)) se_non (cSortX C rfl T.n_sorted (cSetX C rfl T.n_set (nv 8))))))))))) (sss_one (ss_ret (nv 2)))))
theorem ok_closure (T : Tx P w K mg base) : FnG P w K mg base 2 T.f_closure T.fd_closure ["net", "standing", "station"] F_closure := by
  refine fnG_of T.D_closure sc_closure fun cdv A outer s H E B => ?_
  have C := B.cd
  have tk := B.tk
  have hr := B.rm
  have hp := B.pa
  exact (sss_one (ss_ret (se_call (ok_closed_from T) (hr.mono (by decide)) C tk rfl T.g_closed_from T.D_closed_from.kp T.b_closed_from rfl (sa_cons (se_call (ok_wanted T) (hr.mono (by decide)) C tk rfl T.g_wanted T.D_wanted.kp T.b_wanted rfl (sa_cons (nv 0) (sa_cons (nv 1) sa_nil)) (hgl := (gl_cons (gl_cons gl_nil)))) (sa_cons (nv 2) sa_nil)) (hgl := (gl_cons (gl_cons gl_nil))))))
theorem ok_law_pick (T : Tx P w K mg base) : FnG P w K mg base 2 T.f_law_pick T.fd_law_pick ["urn", "some"] F_law_pick := by
  refine fnG_of T.D_law_pick sc_law_pick fun cdv A outer s H E B => ?_
  have C := B.cd
  have tk := B.tk
  have hr := B.rm
  have hp := B.pa
  exact (sss_one (ss_ret (ix C (nv 1) (se_call (ok_law_draw T) (hr.mono (by decide)) C tk rfl T.g_law_draw T.D_law_draw.kp T.b_law_draw rfl (sa_cons (nv 0) (sa_cons (cLen rfl T.n_len (nv 1)) sa_nil)) (hgl := (gl_cons (gl_cons gl_nil)))))))
theorem ok_law_mixed (T : Tx P w K mg base) : FnG P w K mg base 2 T.f_law_mixed T.fd_law_mixed ["urn", "some"] F_law_mixed := by
  refine fnG_of T.D_law_mixed sc_law_mixed fun cdv A outer s H E B => ?_
  have C := B.cd
  have tk := B.tk
  have hr := B.rm
  have hp := B.pa
  exact (sss_cons (ss_par (i := 2) (j := 3) C.hc sc_law_mixed.nd rfl rfl (by decide) rfl rfl (sa_cons (cList rfl T.n_list (nv 1)) (sa_cons (se_lst sa_nil) sa_nil)) rfl) (sss_cons (ss_while hp (tNe C (nv 2) (se_lst sa_nil)) (sss_one (ss_expr (se_append (nv 3) (se_popAt (nv 2) (se_call (ok_law_draw T) (hr.mono (by decide)) C tk rfl T.g_law_draw T.D_law_draw.kp T.b_law_draw rfl (sa_cons (nv 0) (sa_cons (cLen rfl T.n_len (nv 2)) sa_nil)) (hgl := (gl_cons (gl_cons gl_nil))))))))) (sss_one (ss_ret (nv 3)))))
theorem ok_law_lots (T : Tx P w K mg base) : FnG P w K mg base 2 T.f_law_lots T.fd_law_lots ["rails", "scene"] F_law_lots := by
  refine fnG_of T.D_law_lots sc_law_lots fun cdv A outer s H E B => ?_
  have C := B.cd
  have tk := B.tk
  have hr := B.rm
  have hp := B.pa
  exact (sss_cons (ss_asg (se_tup (sa_cons (se_call (ok_law_needs T) (hr.mono (by decide)) C tk rfl T.g_law_needs T.D_law_needs.kp T.b_law_needs rfl (sa_cons (nv 0) (sa_cons (nv 1) sa_nil)) (hgl := (gl_cons (gl_cons gl_nil)))) (sa_cons (se_lst sa_nil) sa_nil))) (sg_tup C.hc (sgs_cons (sg_name (i := 3) sc_law_lots.nd rfl (by first | exact Or.inl rfl | exact Or.inr rfl)) (sgs_cons (sg_name (i := 4) sc_law_lots.nd rfl (by first | exact Or.inl rfl | exact Or.inr rfl)) sgs_nil)) (len_cons (len_cons len_nil)))) (sss_cons (ss_for hp C.hc (si_rng2 rfl T.n_range (by exact se_int) (by exact (bShl se_int (cLen rfl T.n_len (nv 3))))) (sg_name (i := 2) sc_law_lots.nd rfl (by first | exact Or.inl rfl | exact Or.inr rfl)) (sss_cons (ss_set (i := 5) sc_law_lots.nd rfl (by first | exact Or.inl rfl | exact Or.inr rfl) (se_comp C.hc sc_law_lots.nd (si_rng1 rfl T.n_range (by exact (cLen rfl T.n_len (nv 3)))) (blkOk_by (own := [("spot", 6)]) (N := N_law_lots) (sc := defScope s_law_lots) (by decide +kernel)) (fun _ _ _ _ _ => (sc_name (i := 6) sc_law_lots.nd rfl (by first | exact Or.inl rfl | exact Or.inr rfl) (by decide))) (fun _ _ _ _ _ => (sts_one (tEq (Cd.blk C) (bAnd (bShr (nv 2) (nv 6)) se_int) se_int))) (fun _ _ _ _ _ => (nv 6)))) (sss_one (ss_if (tNotIn C se_non (se_comp C.hc sc_law_lots.nd (si_seq (nv 5)) (blkOk_by (own := [("spot", 6)]) (N := N_law_lots) (sc := defScope s_law_lots) (by decide +kernel)) (fun _ _ _ _ _ => (sc_name (i := 6) sc_law_lots.nd rfl (by first | exact Or.inl rfl | exact Or.inr rfl) (by decide))) (fun _ _ _ _ _ => sts_nil) (fun _ _ _ _ _ => (ix (Cd.blk C) (nv 3) (nv 6))))) (sss_one (ss_if (tEq C (se_comp C.hc sc_law_lots.nd (si_seq (nv 5)) (blkOk_by (own := [("spot", 6)]) (N := N_law_lots) (sc := defScope s_law_lots) (by decide +kernel)) (fun _ _ _ _ _ => (sc_name (i := 6) sc_law_lots.nd rfl (by first | exact Or.inl rfl | exact Or.inr rfl) (by decide))) (fun _ _ _ _ _ => (sts_one (tNe (Cd.blk C) (se_comp (Cd.blk C).hc sc_law_lots.nd (si_seq (ix (Cd.blk C) (nv 3) (nv 6))) (blkOk_by (own := [("own", 7)]) (by kernel_rfl)) (fun _ _ _ _ _ => (sc_name (i := 7) sc_law_lots.nd rfl (by first | exact Or.inl rfl | exact Or.inr rfl) (by decide))) (fun _ _ _ _ _ => (sts_one (tNotIn (Cd.blk (Cd.blk C)) (nv 7) (nv 5)))) (fun _ _ _ _ _ => (nv 7))) (se_lst sa_nil)))) (fun _ _ _ _ _ => (nv 6))) (se_lst sa_nil)) (sss_one (ss_expr (se_append (nv 4) (cTuple rfl T.n_tuple (nv 5))))) sss_nil)) sss_nil)))) (sss_one (ss_ret (cSortX C rfl T.n_sorted (nv 4))))))
theorem ok_law_rails (T : Tx P w K mg base) : FnG P w K mg base 3 T.f_law_rails T.fd_law_rails ["urn", "many"] F_law_rails := by
  refine fnG_of T.D_law_rails sc_law_rails fun cdv A outer s H E B => ?_
  have C := B.cd
  have tk := B.tk
  have hr := B.rm
  have hp := B.pa
  exact (sss_cons (ss_par (i := 3) (j := 4) C.hc sc_law_rails.nd rfl rfl (by decide) rfl rfl (sa_cons (se_call (ok_law_draw T) (hr.mono (by decide)) C tk rfl T.g_law_draw T.D_law_draw.kp T.b_law_draw rfl (sa_cons (nv 0) (sa_cons se_int sa_nil)) (hgl := (gl_cons (gl_cons gl_nil)))) (sa_cons (se_lst sa_nil) sa_nil)) rfl) (sss_cons (ss_for hp C.hc (si_rng1 rfl T.n_range (by exact (nv 1))) (sg_name (i := 2) sc_law_rails.nd rfl (by first | exact Or.inl rfl | exact Or.inr rfl)) (sss_cons (ss_set (i := 5) sc_law_rails.nd rfl (by first | exact Or.inl rfl | exact Or.inr rfl) (se_if (tEq C (nv 3) se_int) (se_comp C.hc sc_law_rails.nd (si_seq (se_tup (sa_cons (bSub (nv 2) se_int) (sa_cons (bAdd (nv 2) se_int) sa_nil)))) (blkOk_by (own := [("j", 7)]) (N := N_law_rails) (sc := defScope s_law_rails) (by decide +kernel)) (fun _ _ _ _ _ => (sc_name (i := 7) sc_law_rails.nd rfl (by first | exact Or.inl rfl | exact Or.inr rfl) (by decide))) (fun _ _ _ _ _ => (sts_one (sb_chain op_le op_lt op2_le op2_lt se_int (nv 7) (nv 1)))) (fun _ _ _ _ _ => (nv 7))) (se_lst (sa_cons (bMod (cInt rfl T.n_int (bAdd (nv 2) se_int)) (nv 1)) sa_nil)))) (sss_cons (ss_set (i := 5) sc_law_rails.nd rfl (by first | exact Or.inl rfl | exact Or.inr rfl) (se_if (tEq C (nv 3) se_int) (se_comp C.hc sc_law_rails.nd (si_rng1 rfl T.n_range (by exact (nv 1))) (blkOk_by (own := [("j", 7)]) (N := N_law_rails) (sc := defScope s_law_rails) (by decide +kernel)) (fun _ _ _ _ _ => (sc_name (i := 7) sc_law_rails.nd rfl (by first | exact Or.inl rfl | exact Or.inr rfl) (by decide))) (fun _ _ _ _ _ => (sts_one (sb_w (sbw_or (tEq (Cd.blk C) (nv 7) se_int) (sbw_or1 (tEq (Cd.blk C) (nv 2) se_int)))))) (fun _ _ _ _ _ => (nv 7))) (nv 5))) (sss_cons (ss_set (i := 5) sc_law_rails.nd rfl (by first | exact Or.inl rfl | exact Or.inr rfl) (se_if (tEq C (nv 3) se_int) (se_lst sa_nil) (nv 5))) (sss_cons (ss_set (i := 6) sc_law_rails.nd rfl (by first | exact Or.inl rfl | exact Or.inr rfl) (se_if (tEq C (nv 3) se_int) se_int se_int)) (sss_one (ss_expr (se_extend (nv 4) (se_comp C.hc sc_law_rails.nd (si_rng1 rfl T.n_range (by exact (nv 1))) (blkOk_by (own := [("j", 7)]) (N := N_law_rails) (sc := defScope s_law_rails) (by decide +kernel)) (fun _ _ _ _ _ => (sc_name (i := 7) sc_law_rails.nd rfl (by first | exact Or.inl rfl | exact Or.inr rfl) (by decide))) (fun _ _ _ _ _ => (sts_one (sb_w (sbw_and (tNe (Cd.blk C) (nv 7) (nv 2)) (sbw_and1 (sb_w (sbw_or (tIn (Cd.blk C) (nv 7) (nv 5)) (sbw_or1 (tEq (Cd.blk C) (se_call (ok_law_draw T) (hr.mono (by decide)) (Cd.blk C) takesNo rfl T.g_law_draw T.D_law_draw.kp T.b_law_draw rfl (sa_cons (nv 0) (sa_cons (nv 6) sa_nil)) (hgl := (gl_cons (gl_cons gl_nil)))) se_int))))))))) (fun _ _ _ _ _ => (se_tup (sa_cons (nv 2) (sa_cons (nv 7) sa_nil))))))))))))) (sss_one (ss_ret (se_tup (sa_cons (cTuple rfl T.n_tuple (se_comp C.hc sc_law_rails.nd (si_rng1 rfl T.n_range (by exact (nv 1))) (blkOk_by (own := [("i", 2)]) (N := N_law_rails) (sc := defScope s_law_rails) (by decide +kernel)) (fun _ _ _ _ _ => (sc_name (i := 2) sc_law_rails.nd rfl (by first | exact Or.inl rfl | exact Or.inr rfl) (by decide))) (fun _ _ _ _ _ => sts_nil) (fun _ _ _ _ _ => (se_call (ok_law_pick T) (hr.mono (by decide)) (Cd.blk C) takesNo rfl T.g_law_pick T.D_law_pick.kp T.b_law_pick rfl (sa_cons (nv 0) (sa_cons (se_lst (sa_cons se_int (sa_cons se_int (sa_cons se_int (sa_cons se_int (sa_cons se_int (sa_cons se_int sa_nil))))))) sa_nil)) (hgl := (gl_cons (gl_cons gl_nil))))))) (sa_cons (cTuple rfl T.n_tuple (nv 4)) sa_nil)))))))
theorem ok_law_loop (T : Tx P w K mg base) : FnG P w K mg base 3 T.f_law_loop T.fd_law_loop ["urn", "rails", "some"] F_law_loop := by
  refine fnG_of T.D_law_loop sc_law_loop fun cdv A outer s H E B => ?_
  have C := B.cd
  have tk := B.tk
  have hr := B.rm
  have hp := B.pa
  exact (sss_cons (ss_set (i := 3) sc_law_loop.nd rfl (by first | exact Or.inl rfl | exact Or.inr rfl) (se_if (tNe C (nv 2) (se_lst sa_nil)) (se_lst (sa_cons (se_call (ok_law_pick T) (hr.mono (by decide)) C tk rfl T.g_law_pick T.D_law_pick.kp T.b_law_pick rfl (sa_cons (nv 0) (sa_cons (nv 2) sa_nil)) (hgl := (gl_cons (gl_cons gl_nil)))) sa_nil)) (se_lst sa_nil))) (sss_cons (ss_for hp C.hc (si_rng1 rfl T.n_range (by exact (cLen rfl T.n_len (nv 2)))) (sg_name (i := 4) sc_law_loop.nd rfl (by first | exact Or.inl rfl | exact Or.inr rfl)) (sss_cons (ss_setComp (i := 5) C.hc sc_law_loop.nd rfl rfl rfl (si_seq (ix C (nv 1) se_int)) (blkOk_by (own := [("i", 7), ("j", 8)]) (N := N_law_loop) (sc := defScope s_law_loop) (by decide +kernel)) (fun _ _ _ _ _ => (sc_tup (Cd.blk C).hc (scs_cons (sc_name (i := 7) sc_law_loop.nd rfl (by first | exact Or.inl rfl | exact Or.inr rfl) (by decide)) (scs_cons (sc_name (i := 8) sc_law_loop.nd rfl (by first | exact Or.inl rfl | exact Or.inr rfl) (by decide)) scs_nil)) (len_cons (len_cons len_nil)))) (fun _ _ _ _ _ => (sts_one (sb_w (sbw_and (tEq (Cd.blk C) (nv 7) (ix (Cd.blk C) (nv 3) (se_neg se_int))) (sbw_and1 (tIn (Cd.blk C) (nv 8) (nv 2))))))) (fun _ _ _ _ _ => (nv 8))) (sss_cons (ss_if (tEq C (nv 5) (se_lst sa_nil)) (sss_one (ss_ret (se_lst sa_nil))) sss_nil) (sss_cons (ss_set (i := 6) sc_law_loop.nd rfl (by first | exact Or.inl rfl | exact Or.inr rfl) (se_call (ok_law_pick T) (hr.mono (by decide)) C tk rfl T.g_law_pick T.D_law_pick.kp T.b_law_pick rfl (sa_cons (nv 0) (sa_cons (nv 5) sa_nil)) (hgl := (gl_cons (gl_cons gl_nil))))) (sss_cons (ss_if (tIn C (nv 6) (nv 3)) (sss_one (ss_ret (se_sl (nv 3) (so_some (se_meth1 PySem.F.slot_list_index PySem.F.type_list_index mt_index mt1_index (nv 3) (nv 6))) so_none))) sss_nil) (sss_one (ss_expr (se_append (nv 3) (nv 6))))))))) (sss_one (ss_ret (se_lst sa_nil)))))
theorem ok_law_path (T : Tx P w K mg base) : ∀ k : Nat, FnG P w K mg base (3 + k) T.f_law_path T.fd_law_path ["urn", "rails", "spot", "deep", "inner"] (F_law_path k)
  | 0 => fnG_stuck
  | k + 1 => by
    have ih := ok_law_path T k
    refine fnG_of (k := 3 + k) T.D_law_path sc_law_path fun cdv A outer s H E B => ?_
    have C := B.cd
    have tk := B.tk
    have hr := B.rm
    have hp := B.pa
    exact (sss_cons (ss_setComp (i := 5) C.hc sc_law_path.nd rfl rfl rfl (si_seq (ix C (nv 1) se_int)) (blkOk_by (own := [("i", 8), ("j", 9)]) (N := N_law_path) (sc := defScope s_law_path) (by decide +kernel)) (fun _ _ _ _ _ => (sc_tup (Cd.blk C).hc (scs_cons (sc_name (i := 8) sc_law_path.nd rfl (by first | exact Or.inl rfl | exact Or.inr rfl) (by decide)) (scs_cons (sc_name (i := 9) sc_law_path.nd rfl (by first | exact Or.inl rfl | exact Or.inr rfl) (by decide)) scs_nil)) (len_cons (len_cons len_nil)))) (fun _ _ _ _ _ => (sts_one (sb_w (sbw_and (tEq (Cd.blk C) (nv 8) (nv 2)) (sbw_and1 (tIn (Cd.blk C) (nv 9) (nv 4))))))) (fun _ _ _ _ _ => (nv 9))) (sss_cons (ss_if (sb_w (sbw_or (tEq C (nv 3) se_int) (sbw_or1 (tEq C (nv 5) (se_lst sa_nil))))) (sss_one (ss_ret (se_tup (sa_cons (nv 2) (sa_cons (se_tup sa_nil) sa_nil))))) sss_nil) (sss_cons (ss_set (i := 6) sc_law_path.nd rfl (by first | exact Or.inl rfl | exact Or.inr rfl) (cSortX C rfl T.n_sorted (se_sl (se_call (ok_law_mixed T) (hr.mono (by omega)) C tk rfl T.g_law_mixed T.D_law_mixed.kp T.b_law_mixed rfl (sa_cons (nv 0) (sa_cons (nv 5) sa_nil)) (hgl := (gl_cons (gl_cons gl_nil)))) so_none (so_some (se_call (ok_law_pick T) (hr.mono (by omega)) C tk rfl T.g_law_pick T.D_law_pick.kp T.b_law_pick rfl (sa_cons (nv 0) (sa_cons (se_lst (sa_cons se_int (sa_cons se_int (sa_cons se_int (sa_cons se_int (sa_cons se_int sa_nil)))))) sa_nil)) (hgl := (gl_cons (gl_cons gl_nil)))))))) (sss_cons (ss_set (i := 7) sc_law_path.nd rfl (by first | exact Or.inl rfl | exact Or.inr rfl) (se_listRng1 C.hc rfl T.n_list rfl T.n_range (cLen rfl T.n_len (ix C (nv 1) se_int)))) (sss_one (ss_ret (se_tup (sa_cons (nv 2) (sa_cons (cTuple rfl T.n_tuple (se_comp C.hc sc_law_path.nd (si_seq (nv 6)) (blkOk_by (own := [("own", 10)]) (N := N_law_path) (sc := defScope s_law_path) (by decide +kernel)) (fun _ _ _ _ _ => (sc_name (i := 10) sc_law_path.nd rfl (by first | exact Or.inl rfl | exact Or.inr rfl) (by decide))) (fun _ _ _ _ _ => sts_nil) (fun _ _ _ _ _ => (se_call ih (hr.mono (Nat.le_refl _)) (Cd.blk C) takesNo rfl T.g_law_path T.D_law_path.kp T.b_law_path rfl (sa_cons (nv 0) (sa_cons (nv 1) (sa_cons (nv 10) (sa_cons (se_call (ok_law_draw T) (hr.mono (by omega)) (Cd.blk C) takesNo rfl T.g_law_draw T.D_law_draw.kp T.b_law_draw rfl (sa_cons (nv 0) (sa_cons (nv 3) sa_nil)) (hgl := (gl_cons (gl_cons gl_nil)))) (sa_cons (nv 7) sa_nil))))) (hgl := (gl_cons (gl_cons (gl_cons (gl_cons (gl_cons gl_nil)))))))))) sa_nil)))))))))
theorem ok_law_scene (T : Tx P w K mg base) : FnG P w K mg base 12 T.f_law_scene T.fd_law_scene ["urn", "rails"] F_law_scene := by
  refine fnG_of T.D_law_scene sc_law_scene fun cdv A outer s H E B => ?_
  have C := B.cd
  have tk := B.tk
  have hr := B.rm
  have hp := B.pa
  exact (sss_cons (ss_par (i := 4) (j := 5) C.hc sc_law_scene.nd rfl rfl (by decide) rfl rfl (sa_cons (se_listRng1 C.hc rfl T.n_list rfl T.n_range (cLen rfl T.n_len (ix C (nv 1) se_int))) (sa_cons (se_lst sa_nil) sa_nil)) rfl) (sss_cons (ss_set (i := 2) sc_law_scene.nd rfl (by first | exact Or.inl rfl | exact Or.inr rfl) (se_if (tGt (se_call (ok_law_draw T) (hr.mono (by decide)) C tk rfl T.g_law_draw T.D_law_draw.kp T.b_law_draw rfl (sa_cons (nv 0) (sa_cons se_int sa_nil)) (hgl := (gl_cons (gl_cons gl_nil)))) se_int) (se_call (ok_law_loop T) (hr.mono (by decide)) C tk rfl T.g_law_loop T.D_law_loop.kp T.b_law_loop rfl (sa_cons (nv 0) (sa_cons (nv 1) (sa_cons (nv 4) sa_nil))) (hgl := (gl_cons (gl_cons (gl_cons gl_nil))))) (se_lst sa_nil))) (sss_cons (ss_set (i := 3) sc_law_scene.nd rfl (by first | exact Or.inl rfl | exact Or.inr rfl) (se_call (ok_law_loop T) (hr.mono (by decide)) C tk rfl T.g_law_loop T.D_law_loop.kp T.b_law_loop rfl (sa_cons (nv 0) (sa_cons (nv 1) (sa_cons (se_comp C.hc sc_law_scene.nd (si_seq (nv 4)) (blkOk_by (own := [("spot", 6)]) (N := N_law_scene) (sc := defScope s_law_scene) (by decide +kernel)) (fun _ _ _ _ _ => (sc_name (i := 6) sc_law_scene.nd rfl (by first | exact Or.inl rfl | exact Or.inr rfl) (by decide))) (fun _ _ _ _ _ => (sts_one (tNotIn (Cd.blk C) (nv 6) (nv 2)))) (fun _ _ _ _ _ => (nv 6))) sa_nil))) (hgl := (gl_cons (gl_cons (gl_cons gl_nil)))))) (sss_cons (ss_for hp C.hc (si_enum rfl T.n_enumerate (sa_cons (ix C (nv 1) se_int) sa_nil)) (sg_tup C.hc (sgs_cons (sg_name (i := 6) sc_law_scene.nd rfl (by first | exact Or.inl rfl | exact Or.inr rfl)) (sgs_cons (sg_name (i := 7) sc_law_scene.nd rfl (by first | exact Or.inl rfl | exact Or.inr rfl)) sgs_nil)) (len_cons (len_cons len_nil))) (sss_cons (ss_set (i := 8) sc_law_scene.nd rfl (by first | exact Or.inl rfl | exact Or.inr rfl) (se_if (tIn C (nv 6) (nv 2)) (nv 2) (se_if (tIn C (nv 6) (nv 3)) (nv 3) (se_if (tEq C (se_call (ok_law_draw T) (hr.mono (by decide)) C tk rfl T.g_law_draw T.D_law_draw.kp T.b_law_draw rfl (sa_cons (nv 0) (sa_cons se_int sa_nil)) (hgl := (gl_cons (gl_cons gl_nil)))) se_int) (bAdd (nv 2) (nv 3)) (se_lst sa_nil))))) (sss_one (ss_for hp C.hc (si_rng1 rfl T.n_range (by exact (se_if (sb_w (sbw_and (tNe C (nv 8) (se_lst sa_nil)) (sbw_and1 (tGt (se_call (ok_law_draw T) (hr.mono (by decide)) C tk rfl T.g_law_draw T.D_law_draw.kp T.b_law_draw rfl (sa_cons (nv 0) (sa_cons se_int sa_nil)) (hgl := (gl_cons (gl_cons gl_nil)))) se_int)))) (nv 7) (se_call (ok_law_draw T) (hr.mono (by decide)) C tk rfl T.g_law_draw T.D_law_draw.kp T.b_law_draw rfl (sa_cons (nv 0) (sa_cons (bAdd (nv 7) se_int) sa_nil)) (hgl := (gl_cons (gl_cons gl_nil))))))) (sg_name (i := 9) sc_law_scene.nd rfl (by first | exact Or.inl rfl | exact Or.inr rfl)) (sss_one (ss_if (sb_w (sbw_and (tNe C (nv 8) (se_lst sa_nil)) (sbw_and1 (tGt (se_call (ok_law_draw T) (hr.mono (by decide)) C tk rfl T.g_law_draw T.D_law_draw.kp T.b_law_draw rfl (sa_cons (nv 0) (sa_cons se_int sa_nil)) (hgl := (gl_cons (gl_cons gl_nil)))) se_int)))) (sss_one (ss_expr (se_append (nv 5) (se_call (ok_law_path T 8) (hr.mono (by decide)) C tk rfl T.g_law_path T.D_law_path.kp T.b_law_path rfl (sa_cons (nv 0) (sa_cons (nv 1) (sa_cons (nv 6) (sa_cons (bAdd se_int (se_call (ok_law_draw T) (hr.mono (by decide)) C tk rfl T.g_law_draw T.D_law_draw.kp T.b_law_draw rfl (sa_cons (nv 0) (sa_cons se_int sa_nil)) (hgl := (gl_cons (gl_cons gl_nil))))) (sa_cons (nv 8) sa_nil))))) (hgl := (gl_cons (gl_cons (gl_cons (gl_cons (gl_cons gl_nil)))))))))) (sss_one (ss_expr (se_append (nv 5) (se_call (ok_law_path T 8) (hr.mono (by decide)) C tk rfl T.g_law_path T.D_law_path.kp T.b_law_path rfl (sa_cons (nv 0) (sa_cons (nv 1) (sa_cons (nv 6) (sa_cons (se_call (ok_law_draw T) (hr.mono (by decide)) C tk rfl T.g_law_draw T.D_law_draw.kp T.b_law_draw rfl (sa_cons (nv 0) (sa_cons se_int sa_nil)) (hgl := (gl_cons (gl_cons gl_nil)))) (sa_cons (nv 4) sa_nil))))) (hgl := (gl_cons (gl_cons (gl_cons (gl_cons (gl_cons gl_nil)))))))))))))))) (sss_one (ss_ret (cTuple rfl T.n_tuple (se_call (ok_law_mixed T) (hr.mono (by decide)) C tk rfl T.g_law_mixed T.D_law_mixed.kp T.b_law_mixed rfl (sa_cons (nv 0) (sa_cons (bAdd (nv 5) (bMul (se_lst (sa_cons se_non sa_nil)) (se_call (ok_law_draw T) (hr.mono (by decide)) C tk rfl T.g_law_draw T.D_law_draw.kp T.b_law_draw rfl (sa_cons (nv 0) (sa_cons se_int sa_nil)) (hgl := (gl_cons (gl_cons gl_nil)))))) sa_nil)) (hgl := (gl_cons (gl_cons gl_nil)))))))))))
theorem ok_law (T : Tx P w K mg base) : FnG P w K mg base 13 T.f_law T.fd_law ["script"] F_law := by
  refine fnG_of T.D_law sc_law fun cdv A outer s H E B => ?_
  have C := B.cd
  have tk := B.tk
  have hr := B.rm
  have hp := B.pa
  exact (sss_cons (ss_set (i := 1) sc_law.nd rfl (by first | exact Or.inl rfl | exact Or.inr rfl) (se_call (ok_law_urn T) (hr.mono (by decide)) C tk rfl T.g_law_urn T.D_law_urn.kp T.b_law_urn rfl (sa_cons (nv 0) sa_nil) (hgl := (gl_cons gl_nil)))) (sss_cons (ss_for hp C.hc (si_rng1 rfl T.n_range (by exact se_int)) (sg_name (i := 2) sc_law.nd rfl (by first | exact Or.inl rfl | exact Or.inr rfl)) (sss_cons (ss_set (i := 3) sc_law.nd rfl (by first | exact Or.inl rfl | exact Or.inr rfl) (se_call (ok_law_rails T) (hr.mono (by decide)) C tk rfl T.g_law_rails T.D_law_rails.kp T.b_law_rails rfl (sa_cons (nv 1) (sa_cons (bAdd se_int (se_call (ok_law_draw T) (hr.mono (by decide)) C tk rfl T.g_law_draw T.D_law_draw.kp T.b_law_draw rfl (sa_cons (nv 1) (sa_cons se_int sa_nil)) (hgl := (gl_cons (gl_cons gl_nil))))) sa_nil)) (hgl := (gl_cons (gl_cons gl_nil))))) (sss_cons (ss_set (i := 4) sc_law.nd rfl (by first | exact Or.inl rfl | exact Or.inr rfl) (se_call (ok_law_scene T) (hr.mono (by decide)) C tk rfl T.g_law_scene T.D_law_scene.kp T.b_law_scene rfl (sa_cons (nv 1) (sa_cons (nv 3) sa_nil)) (hgl := (gl_cons (gl_cons gl_nil))))) (sss_cons (ss_par (i := 6) (j := 7) C.hc sc_law.nd rfl rfl (by decide) rfl rfl (sa_cons (se_call (ok_law_lots T) (hr.mono (by decide)) C tk rfl T.g_law_lots T.D_law_lots.kp T.b_law_lots rfl (sa_cons (nv 3) (sa_cons (nv 4) sa_nil)) (hgl := (gl_cons (gl_cons gl_nil)))) (sa_cons (cRepr C rfl T.n_repr (se_lst (sa_cons (nv 3) (sa_cons (nv 4) sa_nil)))) sa_nil)) rfl) (sss_cons (ss_for hp C.hc (si_rng1 rfl T.n_range (by exact (cLen rfl T.n_len (ix C (nv 3) se_int)))) (sg_name (i := 5) sc_law.nd rfl (by first | exact Or.inl rfl | exact Or.inr rfl)) (sss_cons (ss_setComp (i := 8) C.hc sc_law.nd rfl rfl rfl (si_seq (nv 6)) (blkOk_by (own := [("lot", 12)]) (N := N_law) (sc := defScope s_law) (by decide +kernel)) (fun _ _ _ _ _ => (sc_name (i := 12) sc_law.nd rfl (by first | exact Or.inl rfl | exact Or.inr rfl) (by decide))) (fun _ _ _ _ _ => (sts_one (tIn (Cd.blk C) (nv 5) (nv 12)))) (fun _ _ _ _ _ => (nv 12))) (sss_cons (ss_set (i := 9) sc_law.nd rfl (by first | exact Or.inl rfl | exact Or.inr rfl) (se_if (tNe C (nv 8) (se_lst sa_nil)) (cMinL C.hc rfl T.n_min (se_comp C.hc sc_law.nd (si_seq (nv 8)) (blkOk_by (own := [("lot", 12)]) (N := N_law) (sc := defScope s_law) (by decide +kernel)) (fun _ _ _ _ _ => (sc_name (i := 12) sc_law.nd rfl (by first | exact Or.inl rfl | exact Or.inr rfl) (by decide))) (fun _ _ _ _ _ => sts_nil) (fun _ _ _ _ _ => (cLen rfl T.n_len (nv 12))))) se_int)) (sss_cons (ss_setComp (i := 10) C.hc sc_law.nd rfl rfl rfl (si_seq (nv 8)) (blkOk_by (own := [("lot", 12)]) (N := N_law) (sc := defScope s_law) (by decide +kernel)) (fun _ _ _ _ _ => (sc_name (i := 12) sc_law.nd rfl (by first | exact Or.inl rfl | exact Or.inr rfl) (by decide))) (fun _ _ _ _ _ => (sts_one (tEq (Cd.blk C) (cLen rfl T.n_len (nv 12)) (nv 9)))) (fun _ _ _ _ _ => (nv 12))) (sss_cons (ss_set (i := 11) sc_law.nd rfl (by first | exact Or.inl rfl | exact Or.inr rfl) (se_if (tEq C (nv 5) (nv 2)) (se_callK (ks := ["station", "standing", "net"]) (ix := [2, 1, 0]) (ok_closure T) (hr.mono (by decide)) C tk rfl T.g_closure T.D_closure.kp (T.k_closure_station_standing_net) (by intro vs h; exact pickLen_closure_station_standing_net vs h) (sk_cons (nv 5) (sk_cons (nv 4) (sk_cons (nv 3) sk_nil))) (hgl := (gl_cons (gl_cons (gl_cons gl_nil))))) (se_call (ok_closure T) (hr.mono (by decide)) C tk rfl T.g_closure T.D_closure.kp T.b_closure rfl (sa_cons (nv 3) (sa_cons (nv 4) (sa_cons (nv 5) sa_nil))) (hgl := (gl_cons (gl_cons (gl_cons gl_nil))))))) (sss_cons (ss_if (tNe C (cRepr C rfl T.n_repr (se_lst (sa_cons (nv 11) sa_nil))) (cRepr C rfl T.n_repr (se_if (tNe C (nv 10) (se_lst sa_nil)) (nv 10) (se_lst (sa_cons (se_tup sa_nil) sa_nil))))) (sss_one (ss_ret se_bl)) sss_nil) (sss_cons (ss_if (tNe C (se_comp C.hc sc_law.nd (si_seq (nv 8)) (blkOk_by (own := [("lot", 12)]) (N := N_law) (sc := defScope s_law) (by decide +kernel)) (fun _ _ _ _ _ => (sc_name (i := 12) sc_law.nd rfl (by first | exact Or.inl rfl | exact Or.inr rfl) (by decide))) (fun _ _ _ _ _ => (sts_one (tNe (Cd.blk C) (se_comp (Cd.blk C).hc sc_law.nd (si_seq (nv 11)) (blkOk_by (own := [("own", 13)]) (by kernel_rfl)) (fun _ _ _ _ _ => (sc_name (i := 13) sc_law.nd rfl (by first | exact Or.inl rfl | exact Or.inr rfl) (by decide))) (fun _ _ _ _ _ => (sts_one (tNotIn (Cd.blk (Cd.blk C)) (nv 13) (nv 12)))) (fun _ _ _ _ _ => (nv 13))) (se_lst sa_nil)))) (fun _ _ _ _ _ => (nv 12))) (se_lst sa_nil)) (sss_one (ss_ret se_bl)) sss_nil) (sss_one (ss_if (tNe C (cRepr C rfl T.n_repr (se_call (ok_closure T) (hr.mono (by decide)) C tk rfl T.g_closure T.D_closure.kp T.b_closure rfl (sa_cons (nv 3) (sa_cons (nv 4) (sa_cons (nv 5) sa_nil))) (hgl := (gl_cons (gl_cons (gl_cons gl_nil)))))) (cRepr C rfl T.n_repr (nv 11))) (sss_one (ss_ret se_bl)) sss_nil))))))))) (sss_one (ss_if (tNe C (cRepr C rfl T.n_repr (se_lst (sa_cons (nv 3) (sa_cons (nv 4) sa_nil)))) (nv 7)) (sss_one (ss_ret se_bl)) sss_nil))))))) (sss_one (ss_ret se_bl))))
end
end K26

set_option Elab.async false
set_option linter.all false
set_option maxRecDepth 100000
set_option maxHeartbeats 4000000
set_option autoImplicit false
namespace Nt
open PySem PySem.Spec PyProof.Rows L2 Fx
noncomputable abbrev law_draw := drawW
noncomputable abbrev law_pick {τ : Type} (xs : List τ) := pickW xs
noncomputable abbrev law_pickT {τ : Type} (xs : List τ) := pickW xs
noncomputable abbrev law_mixed {τ : Type} (xs : List τ) := mixedW xs
noncomputable def wanted (net : ((List Int) × (List (Int × Int)))) (standing : (List (Option Wy))) : W (List (Option (List Int))) :=
  (W.bind (W.bind (W.pure ([(0 : Int)] : List Int)) fun y_1 => (W.bind (W.pure (net.1.length : Int)) fun y_2 => repW y_1 y_2)) fun counts => (W.bind (W.bind (W.pure net.1) fun xs_3 => W.comO (fun tracks => W.map some (W.map some (W.pure ([] : List Int)))) xs_3) fun found => (W.bind (W.bind (W.pure standing) fun xs_16 => W.forN (fun (way : (Option Wy)) (s : (List Int) × (List (Option (List Int)))) => (W.opt way (W.map (fun u_4 => (s.1, s.2)) (W.pure ())) fun way1 => (W.bind (W.bind (W.pure way1.at) fun y_5 => (W.bind (W.pure (1 : Int)) fun y_6 => augW (fun i j => i + j) s.1 y_5 y_6)) fun counts1 => (W.ite (decide (way1.on = ([] : (List Wy)))) (W.map (fun found1 => (counts1, found1)) (W.bind (W.pure way1.at) fun y_7 => noneAt s.2 y_7)) (W.bind (W.bind (W.bind (W.pure s.2) fun y_8 => (W.bind (W.pure way1.at) fun y_9 => atW y_8 y_9)) fun y_10 => W.pure y_10.isSome) fun b_15 => W.ite b_15 (W.map (fun found2 => (counts1, found2)) (W.bind (W.pure way1.at) fun y_12 => (W.bind (W.bind (W.pure way1.on) fun xs_11 => W.comF (fun further => some further.at) xs_11) fun y_13 => extAt s.2 y_12 y_13))) (W.map (fun u_14 => (counts1, s.2)) (W.pure ()))))))) xs_16 (counts, found)) fun s => (W.bind (W.bind (W.pure (enumFrom 0 net.1)) fun xs_23 => W.forN (fun (pair : (Int × Int)) (s1 : (List (Option (List Int)))) => (W.bind (W.bind (atW s.1 pair.1) fun y_18 => (W.bind (W.pure pair.2) fun y_19 => ltW y_18 y_19)) fun b_22 => W.ite b_22 (W.map (fun found3 => found3) (W.bind (W.pure pair.1) fun y_20 => noneAt s1 y_20)) (W.map (fun u_21 => s1) (W.pure ())))) xs_23 s.2) fun s1 => (W.pure s1)))))
noncomputable def closed_from (table : (List (Option (List Int)))) (station : Int) : W (List Int) :=
  (W.bind (W.pure ([station] : List Int)) fun row => (W.bind (W.pure (0 : Int)) fun at_ => (W.lp (W.whileC (ρ := (List Int)) (fun s => (W.pure (decide (s.2 < ((s.1.length : Int)))))) (fun s => (W.bind (W.bind (W.bind (W.pure table) fun y_24 => (W.bind (atW s.1 s.2) fun y_25 => atW y_24 y_25)) fun y_26 => W.pure y_26.isNone) fun b_37 => W.ite b_37 (W.map Ctl.ret (W.pure ([] : (List Int)))) (W.bind (W.bind (atW s.1 s.2) fun y_34 => (W.bind (atW table y_34) fun o_ => (W.bind (W.ofO o_) fun xs_35 => W.forN (fun (other : Int) (s1 : (List Int)) => (W.ite (!decide (other ∈ s1)) (W.map (fun row2 => row2) (W.bind (W.pure other) fun y_32 => appW s1 y_32)) (W.map (fun u_33 => s1) (W.pure ())))) xs_35 s.1))) fun s1 => (W.map (fun at_1 => Ctl.next (s1, at_1)) (W.bind (W.pure (1 : Int)) fun y_36 => W.pure (s.2 + y_36)))))) (row, at_)) (fun s => (W.bind (sortW s.1) idW)) (fun r => r))))
noncomputable def closure (net : ((List Int) × (List (Int × Int)))) (standing : (List (Option Wy))) (station : Int) : W (List Int) :=
  (W.bind (Nt.wanted (net) (standing)) fun a_39 => Nt.closed_from (a_39) (station))
noncomputable def law_rails (many : Int) : W ((List Int) × (List (Int × Int))) :=
  (W.bind (W.bind (Nt.law_draw ((4 : Int))) fun y_40 => (W.bind (W.pure ([] : List (Int × Int))) fun y_41 => W.pure (y_40, y_41))) fun a_42 => (W.bind (W.bind (W.bind (W.pure many) rng1) fun xs_56 => W.forN (fun (i : Int) (s : (List (Int × Int))) => (W.bind (W.bind (W.pure (decide (a_42.1 = (0 : Int)))) fun y_45 => W.ite y_45 (W.bind (W.pure ([(i - (1 : Int)), (i + (1 : Int))] : (List Int))) fun xs_43 => W.comF (fun j => if (decide ((0 : Int) ≤ j) && decide (j < many)) = true then some j else none) xs_43) (W.map (fun a_44 => [a_44]) (modW (i + (1 : Int)) many))) fun near => (W.bind (W.bind (W.pure (decide (a_42.1 = (2 : Int)))) fun y_46 => W.ite y_46 (W.bind (W.bind (W.pure many) rng1) fun xs_47 => W.comF (fun j1 => if ((decide (j1 = (0 : Int))) || (decide (i = (0 : Int)))) = true then some j1 else none) xs_47) (W.pure near)) fun near1 => (W.bind (W.bind (W.pure (decide (a_42.1 = (3 : Int)))) fun y_48 => W.ite y_48 (W.pure ([] : List Int)) (W.pure near1)) fun near2 => (W.bind (W.pure (if (decide (a_42.1 = (3 : Int))) = true then (3 : Int) else (7 : Int))) fun most => (W.map (fun found => found) (W.bind (W.bind (W.bind (W.pure many) rng1) fun xs_54 => W.comO (fun j2 => (W.bind (W.bind (W.pure (!decide (j2 = i))) fun y_52 => W.ite y_52 (W.bind (W.pure ((decide (j2 ∈ near2)))) fun y_51 => W.ite y_51 (W.pure true) (W.bind (Nt.law_draw (most)) fun y_49 => (W.bind (W.pure (0 : Int)) fun y_50 => eqEW y_49 y_50))) (W.pure false)) fun b_53 => W.ite b_53 (W.map some (W.pure (i, j2))) (W.pure none))) xs_54) fun y_55 => extW s y_55))))))) xs_56 a_42.2) fun s => (W.map (fun a_59 => (a_59, (s))) (W.bind (W.bind (W.bind (W.pure many) rng1) fun xs_58 => W.comO (fun i1 => W.map some (W.bind (W.pure ([(1 : Int), (1 : Int), (1 : Int), (2 : Int), (2 : Int), (3 : Int)] : List Int)) fun a_57 => Nt.law_pick (a_57))) xs_58) idW))))
noncomputable def law_path : Nat → ((List Int) × (List (Int × Int))) → Int → Int → (List Int) → W Wy
  | 0, _, _, _, _ => W.ofO none
  | k + 1, rails, spot, deep, inner =>
  (W.bind (W.bind (W.pure rails.2) fun xs_60 => W.comF (fun pair => if ((decide (pair.1 = spot)) && ((decide (pair.2 ∈ inner)))) = true then some pair.2 else none) xs_60) fun menu => (W.bind (W.pure ((decide (deep = (0 : Int))) || ((decide (menu = ([] : List Int)))))) fun b_68 => W.ite b_68 (W.map (fun z => z) (W.bind (W.pure (spot, [])) fun p => W.ofO (wyO p.1 p.2))) (W.bind (W.bind (W.bind (Nt.law_mixed (menu)) fun y_62 => (W.bind (W.bind (W.pure ([(1 : Int), (1 : Int), (1 : Int), (2 : Int), (3 : Int)] : List Int)) fun a_61 => Nt.law_pick (a_61)) fun y_63 => W.pure (cutL y_62 none (some y_63)))) sortW) fun some_ => (W.bind (W.bind (W.pure (rails.1.length : Int)) lrngW) fun every => (W.bind (W.map (fun a_67 => (spot, a_67)) (W.bind (W.comO (fun own => W.map some (W.bind (Nt.law_draw (deep)) fun a_64 => Nt.law_path k (rails) (own) (a_64) (every))) some_) idW)) fun p => W.ofO (wyO p.1 p.2))))))
noncomputable def law_loop (rails : ((List Int) × (List (Int × Int)))) (some_ : (List Int)) : W (List Int) :=
  (W.bind (W.bind (W.pure (!decide (some_ = ([] : List Int)))) fun y_70 => W.ite y_70 (W.map (fun a_69 => [a_69]) (Nt.law_pick (some_))) (W.pure ([] : List Int))) fun seen => (W.lp (W.bind (W.bind (W.pure ((some_.length : Int))) rng1) fun xs_82 => W.forC (ρ := (List Int)) (fun (turn : Int) (s : (List Int)) => (W.bind (W.bind (W.pure rails.2) fun xs_75 => W.comO (fun pair => (W.bind (W.bind (W.bind (W.pure pair.1) fun y_71 => (W.bind (atW s (-(1 : Int))) fun y_72 => eqEW y_71 y_72)) fun y_73 => W.ite y_73 (W.pure ((decide (pair.2 ∈ some_)))) (W.pure false)) fun b_74 => W.ite b_74 (W.map some (W.pure pair.2)) (W.pure none))) xs_75) fun menu => (W.bind (W.pure ((decide (menu = ([] : List Int))))) fun b_81 => W.ite b_81 (W.map Ctl.ret (W.pure ([] : List Int))) (W.bind (Nt.law_pick (menu)) fun own => (W.bind (W.pure ((decide (own ∈ s)))) fun b_80 => W.ite b_80 (W.map Ctl.ret (W.bind (W.pure s) fun y_77 => (W.bind (W.bind (W.pure own) fun y_76 => indexW s y_76) fun y_78 => W.pure (cutL y_77 (some y_78) none)))) (W.map (fun seen1 => Ctl.next seen1) (W.bind (W.pure own) fun y_79 => appW s y_79))))))) xs_82 seen) (fun s => (W.pure ([] : List Int))) (fun r => r)))
noncomputable def law_scene (rails : ((List Int) × (List (Int × Int)))) : W (List (Option Wy)) :=
  (W.bind (W.bind (W.bind (W.pure (rails.1.length : Int)) lrngW) fun y_84 => (W.bind (W.pure ([] : List (Option Wy))) fun y_85 => W.pure (y_84, y_85))) fun a_86 => (W.bind (W.bind (W.bind (Nt.law_draw ((5 : Int))) fun y_87 => (W.bind (W.pure (0 : Int)) fun y_88 => (fun i j => ltW j i) y_87 y_88)) fun y_89 => W.ite y_89 (Nt.law_loop (rails) (a_86.1)) (W.pure ([] : List Int))) fun one => (W.bind (W.bind (W.bind (W.pure a_86.1) fun xs_90 => W.comF (fun spot => if (!decide (spot ∈ one)) = true then some spot else none) xs_90) fun a_91 => Nt.law_loop (rails) (a_91)) fun other => (W.bind (W.bind (W.pure (enumFrom 0 rails.1)) fun xs_160 => W.forN (fun (pair : (Int × Int)) (s : (List (Option Wy))) => (W.bind (W.pure ((decide (pair.1 ∈ one)))) fun y_93 => W.ite y_93 (W.map (fun s1 => s1) (W.bind (W.bind (W.bind (W.bind (W.pure (!decide (one = ([] : List Int)))) fun y_98 => W.ite y_98 (W.bind (Nt.law_draw ((12 : Int))) fun y_96 => (W.bind (W.pure (0 : Int)) fun y_97 => (fun i j => ltW j i) y_96 y_97)) (W.pure false)) fun y_99 => W.ite y_99 (W.pure pair.2) (Nt.law_draw ((pair.2 + (1 : Int))))) rng1) fun xs_109 => W.forN (fun (turn : Int) (s1 : (List (Option Wy))) => (W.bind (W.bind (W.pure (!decide (one = ([] : List Int)))) fun y_102 => W.ite y_102 (W.bind (Nt.law_draw ((20 : Int))) fun y_100 => (W.bind (W.pure (0 : Int)) fun y_101 => (fun i j => ltW j i) y_100 y_101)) (W.pure false)) fun b_108 => W.ite b_108 (W.map (fun found => found) (W.bind (W.map some (W.bind (W.bind (Nt.law_draw ((3 : Int))) fun y_103 => addW (1 : Int) y_103) fun a_104 => Nt.law_path 8 (rails) (pair.1) (a_104) (one))) fun y_105 => appW s1 y_105)) (W.map (fun found1 => found1) (W.bind (W.map some (W.bind (Nt.law_draw ((4 : Int))) fun a_106 => Nt.law_path 8 (rails) (pair.1) (a_106) (a_86.1))) fun y_107 => appW s1 y_107)))) xs_109 s)) (W.bind (W.pure ((decide (pair.1 ∈ other)))) fun y_110 => W.ite y_110 (W.map (fun s2 => s2) (W.bind (W.bind (W.bind (W.bind (W.pure (!decide (other = ([] : List Int)))) fun y_115 => W.ite y_115 (W.bind (Nt.law_draw ((12 : Int))) fun y_113 => (W.bind (W.pure (0 : Int)) fun y_114 => (fun i j => ltW j i) y_113 y_114)) (W.pure false)) fun y_116 => W.ite y_116 (W.pure pair.2) (Nt.law_draw ((pair.2 + (1 : Int))))) rng1) fun xs_126 => W.forN (fun (turn1 : Int) (s2 : (List (Option Wy))) => (W.bind (W.bind (W.pure (!decide (other = ([] : List Int)))) fun y_119 => W.ite y_119 (W.bind (Nt.law_draw ((20 : Int))) fun y_117 => (W.bind (W.pure (0 : Int)) fun y_118 => (fun i j => ltW j i) y_117 y_118)) (W.pure false)) fun b_125 => W.ite b_125 (W.map (fun found2 => found2) (W.bind (W.map some (W.bind (W.bind (Nt.law_draw ((3 : Int))) fun y_120 => addW (1 : Int) y_120) fun a_121 => Nt.law_path 8 (rails) (pair.1) (a_121) (other))) fun y_122 => appW s2 y_122)) (W.map (fun found3 => found3) (W.bind (W.map some (W.bind (Nt.law_draw ((4 : Int))) fun a_123 => Nt.law_path 8 (rails) (pair.1) (a_123) (a_86.1))) fun y_124 => appW s2 y_124)))) xs_126 s)) (W.bind (W.bind (Nt.law_draw ((2 : Int))) fun y_127 => (W.bind (W.pure (0 : Int)) fun y_128 => eqEW y_127 y_128)) fun y_129 => W.ite y_129 (W.bind (W.bind (W.pure one) fun y_130 => (W.bind (W.pure other) fun y_131 => catW y_130 y_131)) fun inner2 => (W.map (fun s3 => s3) (W.bind (W.bind (W.bind (W.bind (W.pure (!decide (inner2 = ([] : List Int)))) fun y_134 => W.ite y_134 (W.bind (Nt.law_draw ((12 : Int))) fun y_132 => (W.bind (W.pure (0 : Int)) fun y_133 => (fun i j => ltW j i) y_132 y_133)) (W.pure false)) fun y_135 => W.ite y_135 (W.pure pair.2) (Nt.law_draw ((pair.2 + (1 : Int))))) rng1) fun xs_145 => W.forN (fun (turn2 : Int) (s3 : (List (Option Wy))) => (W.bind (W.bind (W.pure (!decide (inner2 = ([] : List Int)))) fun y_138 => W.ite y_138 (W.bind (Nt.law_draw ((20 : Int))) fun y_136 => (W.bind (W.pure (0 : Int)) fun y_137 => (fun i j => ltW j i) y_136 y_137)) (W.pure false)) fun b_144 => W.ite b_144 (W.map (fun found4 => found4) (W.bind (W.map some (W.bind (W.bind (Nt.law_draw ((3 : Int))) fun y_139 => addW (1 : Int) y_139) fun a_140 => Nt.law_path 8 (rails) (pair.1) (a_140) (inner2))) fun y_141 => appW s3 y_141)) (W.map (fun found5 => found5) (W.bind (W.map some (W.bind (Nt.law_draw ((4 : Int))) fun a_142 => Nt.law_path 8 (rails) (pair.1) (a_142) (a_86.1))) fun y_143 => appW s3 y_143)))) xs_145 s))) (W.bind (W.pure ([] : List Int)) fun inner3 => (W.map (fun s4 => s4) (W.bind (W.bind (W.bind (W.bind (W.pure (!decide (inner3 = ([] : List Int)))) fun y_148 => W.ite y_148 (W.bind (Nt.law_draw ((12 : Int))) fun y_146 => (W.bind (W.pure (0 : Int)) fun y_147 => (fun i j => ltW j i) y_146 y_147)) (W.pure false)) fun y_149 => W.ite y_149 (W.pure pair.2) (Nt.law_draw ((pair.2 + (1 : Int))))) rng1) fun xs_159 => W.forN (fun (turn3 : Int) (s4 : (List (Option Wy))) => (W.bind (W.bind (W.pure (!decide (inner3 = ([] : List Int)))) fun y_152 => W.ite y_152 (W.bind (Nt.law_draw ((20 : Int))) fun y_150 => (W.bind (W.pure (0 : Int)) fun y_151 => (fun i j => ltW j i) y_150 y_151)) (W.pure false)) fun b_158 => W.ite b_158 (W.map (fun found6 => found6) (W.bind (W.map some (W.bind (W.bind (Nt.law_draw ((3 : Int))) fun y_153 => addW (1 : Int) y_153) fun a_154 => Nt.law_path 8 (rails) (pair.1) (a_154) (inner3))) fun y_155 => appW s4 y_155)) (W.map (fun found7 => found7) (W.bind (W.map some (W.bind (Nt.law_draw ((4 : Int))) fun a_156 => Nt.law_path 8 (rails) (pair.1) (a_156) (a_86.1))) fun y_157 => appW s4 y_157)))) xs_159 s))))))) xs_160 a_86.2) fun s => (W.bind (W.bind (W.bind (W.bind (W.pure ([none] : List (Option Wy))) fun y_164 => (W.bind (Nt.law_draw ((3 : Int))) fun y_165 => repW y_164 y_165)) fun y_166 => catW s y_166) fun a_167 => Nt.law_mixed (a_167)) idW)))))
noncomputable def law_needs (rails : ((List Int) × (List (Int × Int)))) (scene : (List (Option Wy))) : W (List (Option (List Int))) :=
  (W.bind (W.pure ([] : (List (Option (List Int))))) fun found => (W.bind (W.bind (W.pure (enumFrom 0 rails.1)) fun xs_184 => W.forN (fun (pair : (Int × Int)) (s : (List (Option (List Int)))) => (W.bind (W.bind (W.bind (W.pure scene) fun xs_169 => W.comF (fun way => match way with | none => none | some way1 => if (decide (way1.at = pair.1)) = true then some way1 else none) xs_169) fun y_170 => (W.bind (W.pure ([] : List Int)) fun y_171 => W.pure (y_170, y_171))) fun a_172 => (W.bind (W.forN (fun (way2 : Wy) (s1 : (List Int)) => (W.map (fun wished1 => wished1) (W.bind (W.bind (W.pure way2.on) fun xs_176 => W.comF (fun own1 => some own1.at) xs_176) fun y_177 => extW s1 y_177))) a_172.1 a_172.2) fun s1 => (W.bind (W.bind (W.pure (decide (((a_172.1.length : Int)) < pair.2))) fun y_181 => W.ite y_181 (W.pure true) (W.bind (W.pure ([] : (List Wy))) fun y_179 => (W.bind (W.bind (W.pure a_172.1) fun xs_178 => W.comF (fun way3 => some way3.on) xs_178) fun y_180 => inW y_179 y_180))) fun is_open => (W.map (fun found1 => found1) (W.bind (W.bind (W.pure is_open) fun y_182 => W.ite y_182 (W.map (fun _ => none) (W.pure ())) (W.map some (W.bind (setIW s1) sortSI))) fun y_183 => appW s y_183)))))) xs_184 found) fun s => (W.pure s)))
noncomputable def law_lots (rails : ((List Int) × (List (Int × Int)))) (scene : (List (Option Wy))) : W (List (List Int)) :=
  (W.bind (W.bind (Nt.law_needs (rails) (scene)) fun y_185 => (W.bind (W.pure ([] : List (List Int))) fun y_186 => W.pure (y_185, y_186))) fun a_187 => (W.bind (W.bind (W.bind (W.pure (1 : Int)) fun y_188 => (W.bind (shlW (1 : Int) ((a_187.1.length : Int))) fun y_189 => rng2 y_188 y_189)) fun xs_215 => W.forN (fun (mask : Int) (s : (List (List Int))) => (W.bind (W.bind (W.bind (W.pure ((a_187.1.length : Int))) rng1) fun xs_195 => W.comO (fun spot => (W.bind (W.bind (W.bind (shrW mask spot) fun y_190 => (W.bind (W.pure (1 : Int)) fun y_191 => andW y_190 y_191)) fun y_192 => (W.bind (W.pure (1 : Int)) fun y_193 => eqEW y_192 y_193)) fun b_194 => W.ite b_194 (W.map some (W.pure spot)) (W.pure none))) xs_195) fun spots => (W.bind (W.bind (W.bind (W.pure spots) fun xs_198 => W.comO (fun spot1 => W.map some (W.bind (W.pure a_187.1) fun y_196 => (W.bind (W.pure spot1) fun y_197 => atW y_196 y_197))) xs_198) fun y_199 => W.pure (!decide (none ∈ y_199))) fun b_214 => W.ite b_214 (W.bind (W.bind (W.bind (W.pure spots) fun xs_207 => W.comO (fun spot2 => (W.bind (W.bind (W.bind (W.bind (W.bind (W.pure a_187.1) fun y_200 => (W.bind (W.pure spot2) fun y_201 => atW y_200 y_201)) W.ofO) fun xs_203 => W.comF (fun own => if (!decide (own ∈ spots)) = true then some own else none) xs_203) fun y_204 => (W.bind (W.pure ([] : List Int)) fun y_205 => neLW y_204 y_205)) fun b_206 => W.ite b_206 (W.map some (W.pure spot2)) (W.pure none))) xs_207) fun y_208 => (W.bind (W.pure ([] : List Int)) fun y_209 => eqLW y_208 y_209)) fun b_212 => W.ite b_212 (W.map (fun found => found) (W.bind (W.pure (spots)) fun y_210 => appW s y_210)) (W.map (fun u_211 => s) (W.pure ()))) (W.map (fun u_213 => s) (W.pure ()))))) xs_215 a_187.2) fun s => (sortTW s)))
noncomputable def law : W Bool :=
  (W.lp (W.bind (W.bind (W.pure (6 : Int)) rng1) fun xs_250 => W.forC (ρ := Bool) (fun (turn : Int) (s : Unit) => (W.bind (W.bind (W.bind (Nt.law_draw ((5 : Int))) fun y_216 => addW (2 : Int) y_216) fun a_217 => Nt.law_rails (a_217)) fun rails => (W.bind (Nt.law_scene (rails)) fun scene => (W.bind (W.bind (Nt.law_lots (rails) (scene)) fun y_218 => (W.bind (reprXW ([((eP (eS eI) (eS (eP eI eI))) rails), ((eS (eO eW)) scene)] : List PV)) fun y_219 => W.pure (y_218, y_219))) fun a_220 => (W.lp (W.bind (W.bind (W.pure (rails.1.length : Int)) rng1) fun xs_244 => W.forC (ρ := Bool) (fun (spot : Int) (s1 : Unit) => (W.bind (W.bind (W.pure a_220.1) fun xs_221 => W.comF (fun lot => if (decide (spot ∈ lot)) = true then some lot else none) xs_221) fun holding => (W.bind (W.bind (W.pure (!decide (holding = ([] : List (List Int))))) fun y_224 => W.ite y_224 (W.bind (W.bind (W.pure holding) fun xs_222 => W.comF (fun lot1 => some (lot1.length : Int)) xs_222) minW) (W.pure (0 : Int))) fun least => (W.bind (W.bind (W.pure holding) fun xs_225 => W.comF (fun lot2 => if (decide ((lot2.length : Int) = least)) = true then some lot2 else none) xs_225) fun due => (W.bind (W.bind (W.pure (decide (spot = turn))) fun y_226 => W.ite y_226 (Nt.closure (rails) (scene) (spot)) (Nt.closure (rails) (scene) (spot))) fun told => (W.bind (W.bind ((fun xs => reprW (.list ((xs.map (eS eI)).map PV.pd))) ([told] : List (List Int))) fun y_229 => (W.bind (W.bind (W.bind (W.pure (!decide (due = ([] : List (List Int))))) fun y_227 => W.ite y_227 (W.pure due) (W.pure ([([] : (List Int))] : List (List Int)))) (fun xs => reprW (.list ((xs.map (eS eI)).map PV.pd)))) fun y_230 => neStW y_229 y_230)) fun b_243 => W.ite b_243 (W.map Ctl.ret (W.pure false)) (W.bind (W.bind (W.bind (W.pure holding) fun xs_235 => W.comO (fun lot3 => (W.bind (W.bind (W.bind (W.pure told) fun xs_231 => W.comF (fun own => if (!decide (own ∈ lot3)) = true then some own else none) xs_231) fun y_232 => (W.bind (W.pure ([] : List Int)) fun y_233 => neLW y_232 y_233)) fun b_234 => W.ite b_234 (W.map some (W.pure lot3)) (W.pure none))) xs_235) fun y_236 => (W.bind (W.pure ([] : List (List Int))) fun y_237 => neLW y_236 y_237)) fun b_242 => W.ite b_242 (W.map Ctl.ret (W.pure false)) (W.bind (W.bind (W.bind (Nt.closure (rails) (scene) (spot)) (fun x => reprW ((eS eI) x).pd)) fun y_238 => (W.bind ((fun x => reprW ((eS eI) x).pd) told) fun y_239 => neStW y_238 y_239)) fun b_241 => W.ite b_241 (W.map Ctl.ret (W.pure false)) (W.map (fun u_240 => Ctl.next ()) (W.pure ())))))))))) xs_244 ()) (fun s1 => (W.bind (W.bind (reprXW ([((eP (eS eI) (eS (eP eI eI))) rails), ((eS (eO eW)) scene)] : List PV)) fun y_245 => (W.bind (W.pure a_220.2) fun y_246 => neStW y_245 y_246)) fun b_248 => W.ite b_248 (W.map Ctl.ret (W.pure false)) (W.map (fun u_247 => Ctl.next ()) (W.pure ())))) (fun r => Ctl.ret r)))))) xs_250 ()) (fun s => (W.pure true)) (fun r => r))
end Nt

set_option Elab.async false
set_option linter.all false
set_option maxRecDepth 100000
set_option maxHeartbeats 4000000
set_option autoImplicit false
namespace K26
open PySem PySem.Spec PyProof.Rows L2 Fx Fx.Urn
theorem w_law_draw (many : Int) : WF B F_law_draw [.bag, gM eI many] (Nt.law_draw many) (gM eI) (fun _ => [.bag, gM eI many]) := draw_ok many
theorem w_law_pick {τ : Type} {e : τ → PV} (xs : List τ) : WF B F_law_pick [.bag, gL (gM e) xs] (Nt.law_pick xs) (gM e) (fun _ => [.bag, gL (gM e) xs]) := wf_pick draw_ok xs
theorem w_law_pickT {τ : Type} {e : τ → PV} (xs : List τ) : WF B F_law_pick [.bag, gM (eS e) xs] (Nt.law_pickT xs) (gM e) (fun _ => [.bag, gM (eS e) xs]) := wf_pickT draw_ok xs
theorem w_law_mixed {τ : Type} [DecidableEq τ] {e : τ → PV} {n : Nat} (he : EqE e n) (xs : List τ) (hn : n ≤ 58 := by decide) : WF B F_law_mixed [.bag, gL (gM e) xs] (Nt.law_mixed xs) (gL (gM e)) (fun _ => [.bag, gL (gM e) xs]) := wf_mixed draw_ok he xs hn
theorem w_wanted (net : ((List Int) × (List (Int × Int)))) (standing : (List (Option Wy))) : WF B F_wanted [((gM (eP (eS eI) (eS (eP eI eI)))) net), ((gM (eS (eO eW))) standing)] (Nt.wanted net standing) (gL (gOL eI)) (fun _ => [((gM (eP (eS eI) (eS (eP eI eI)))) net), ((gM (eS (eO eW))) standing)]) :=
  wf_of (n := 8) (body := B_wanted) (fun os hl => match os, hl with
    | [o0, o1], _ => ⟨fun a => .rt ((gL (gOL eI)) a) ([]), fun _ => [], (show WS B [some (o0, ((gM (eP (eS eI) (eS (eP eI eI)))) net)), some (o1, ((gM (eS (eO eW))) standing)), none, none, none, none, none, none] B_wanted (Nt.wanted net standing) (fun a => .rt ((gL (gOL eI)) a) ([])) from
      (ws_seq (ws_set (i := 2) (v := (gL (gM eI))) (we_binPP (op := repW) op2_rep (wp_lst (e := eI) (xs := [(0 : Int)]) (wvs_cons (wv_int 0) wvs_nil) (Nat.le_of_ble_eq_true rfl)) (wp_pure (e := eI) (a := (net.1.length : Int)) (wv_lenS (e := eI) (wv_ix (n := 0) (wv_name (i := 0) rfl) rfl)))) (fun _ => (Nat.le_of_ble_eq_true rfl))) (fun counts => (ws_seq (ws_set (i := 3) (v := (gL (gOL eI))) (we_comp (e := eI) (p := (fun tracks => W.map some (W.map some (W.pure ([] : List Int))))) (v := (gOL eI)) (wi_tS (e := eI) (wv_ix (n := 0) (wv_name (i := 0) rfl) rfl)) (fun tracks => (tg_n (i := 6) (Nat.le_of_ble_eq_true rfl))) (fun tracks => (.yes (.yes (.yes (.no (.no (.no (.no (.no .nil))))))))) (fun tracks => (ce_y (we_map (v' := (gOL eI)) (h := some) (we_new (wp_lst (e := eI) (xs := []) wvs_nil (Nat.le_of_ble_eq_true rfl)) lst_new) (fun _ => rfl))))) (fun _ => (Nat.le_of_ble_eq_true rfl))) (fun found => (ws_seq (ws_forP (e := (eO eW)) (Gs := (fun (s : (List Int) × (List (Option (List Int)))) => [some (o0, ((gM (eP (eS eI) (eS (eP eI eI)))) net)), some (o1, ((gM (eS (eO eW))) standing)), some (none, ((gL (gM eI)) s.1)), some (none, ((gL (gOL eI)) s.2)), none, none, none, none])) (s0 := (counts, found)) (wi_tS (e := (eO eW)) (wv_name (i := 1) rfl)) (.yes (.yes (.yes (.yes (.no (.no (.no (.no .nil)))))))) (fun _ => rfl) (fun way s => (tg_n (i := 4) (Nat.le_of_ble_eq_true rfl))) (fun way s => (match way with | none => ws_none (ws_ifF (wb_notN (i := 4) rfl) (ws_to (G2 := (fun (s : (List Int) × (List (Option (List Int)))) => [some (o0, ((gM (eP (eS eI) (eS (eP eI eI)))) net)), some (o1, ((gM (eS (eO eW))) standing)), some (none, ((gL (gM eI)) s.1)), some (none, ((gL (gOL eI)) s.2)), none, none, none, none])) (h := fun u_4 => (s.1, s.2)) ws_skip (fun u_4 => (.yes (.yes (.yes (.yes (.no (.no (.no (.no .nil))))))))))) | some way1 => ws_some (ws_ifT (wb_notS (i := 4) (e := eW) nnW rfl) (ws_seq (ws_augS (i := 2) (xs := s.1) (op := fun i j => i + j) rfl (wp_pure (e := eI) (a := way1.at) (wv_wat (wv_name (i := 4) rfl))) (wp_pure (e := eI) (a := (1 : Int)) (wv_int 1))) (fun counts1 => (ws_ifB (wb_v (wv_eq (e := (eS eW)) (eqS eqW) (wv_won (wv_name (i := 4) rfl)) (wv_tup wvs_nil (Nat.le_of_ble_eq_true rfl)))) (ws_to (G2 := (fun (s : (List Int) × (List (Option (List Int)))) => [some (o0, ((gM (eP (eS eI) (eS (eP eI eI)))) net)), some (o1, ((gM (eS (eO eW))) standing)), some (none, ((gL (gM eI)) s.1)), some (none, ((gL (gOL eI)) s.2)), none, none, none, none])) (h := fun found1 => (counts1, found1)) (ws_putN (e := eI) (i := 3) (xs := s.2) rfl (wp_pure (e := eI) (a := way1.at) (wv_wat (wv_name (i := 4) rfl)))) (fun found1 => (.yes (.yes (.yes (.yes (.no (.no (.no (.no .nil)))))))))) (ws_if (wt_q (wq_p (wp_notNO (wp_bin (op := atW) (op2_ixR (v := (gOL eI))) (wp_name (i := 3) (v := (gL (gOL eI))) (a := s.2) rfl) (wp_pure (e := eI) (a := way1.at) (wv_wat (wv_name (i := 4) rfl))))))) (ws_to (G2 := (fun (s : (List Int) × (List (Option (List Int)))) => [some (o0, ((gM (eP (eS eI) (eS (eP eI eI)))) net)), some (o1, ((gM (eS (eO eW))) standing)), some (none, ((gL (gM eI)) s.1)), some (none, ((gL (gOL eI)) s.2)), none, none, none, none])) (h := fun found2 => (counts1, found2)) (ws_extAt (e := eI) (i := 3) (xs := s.2) rfl (wp_pure (e := eI) (a := way1.at) (wv_wat (wv_name (i := 4) rfl))) (wp_compF (p := (fun further => some further.at)) (eb := eI) (wip_t (e := eW) (wp_pure (e := (eS eW)) (a := way1.on) (wv_won (wv_name (i := 4) rfl)))) (fun further => tr_n) (fun further => cf_y (wv_wat (wv_name (i := 7) rfl))))) (fun found2 => (.yes (.yes (.yes (.yes (.no (.no (.no (.no .nil)))))))))) (ws_to (G2 := (fun (s : (List Int) × (List (Option (List Int)))) => [some (o0, ((gM (eP (eS eI) (eS (eP eI eI)))) net)), some (o1, ((gM (eS (eO eW))) standing)), some (none, ((gL (gM eI)) s.1)), some (none, ((gL (gOL eI)) s.2)), none, none, none, none])) (h := fun u_14 => (counts1, s.2)) ws_skip (fun u_14 => (.yes (.yes (.yes (.yes (.no (.no (.no (.no .nil)))))))))))))))))) (fun s => (ws_seq (ws_forP (e := (eP eI eI)) (Gs := (fun (s1 : (List (Option (List Int)))) => [some (o0, ((gM (eP (eS eI) (eS (eP eI eI)))) net)), some (o1, ((gM (eS (eO eW))) standing)), some (none, ((gL (gM eI)) s.1)), some (none, ((gL (gOL eI)) s1)), none, none, none, none])) (s0 := s.2) (wi_enumS (e := eI) (wv_ix (n := 0) (wv_name (i := 0) rfl) rfl)) (.yes (.yes (.yes (.yes (.no (.no (.no (.no .nil)))))))) (fun _ => rfl) (fun pair s1 => (tg_t (tgs_cons (tg_n (i := 5) (Nat.le_of_ble_eq_true rfl)) (tgs_cons (tg_n (i := 6) (Nat.le_of_ble_eq_true rfl)) tgs_nil)))) (fun pair s1 => (ws_if (wt_q (wq_p (wp_bin' (op := ltW) op2_ltW (wp_bin1 (op := atW) (Op2W.r (op2_ixL (eb := eI))) (wp_name (i := 2) (v := (gL (gM eI))) (a := s.1) rfl) (wp_pure (e := eI) (a := pair.1) (wv_name (i := 5) rfl))) (wp_pure (e := eI) (a := pair.2) (wv_name (i := 6) rfl))))) (ws_to (G2 := (fun (s1 : (List (Option (List Int)))) => [some (o0, ((gM (eP (eS eI) (eS (eP eI eI)))) net)), some (o1, ((gM (eS (eO eW))) standing)), some (none, ((gL (gM eI)) s.1)), some (none, ((gL (gOL eI)) s1)), none, none, none, none])) (h := fun found3 => found3) (ws_putN (e := eI) (i := 3) (xs := s1) rfl (wp_pure (e := eI) (a := pair.1) (wv_name (i := 5) rfl))) (fun found3 => (.yes (.yes (.yes (.yes (.no (.no (.no (.no .nil)))))))))) (ws_to (G2 := (fun (s1 : (List (Option (List Int)))) => [some (o0, ((gM (eP (eS eI) (eS (eP eI eI)))) net)), some (o1, ((gM (eS (eO eW))) standing)), some (none, ((gL (gM eI)) s.1)), some (none, ((gL (gOL eI)) s1)), none, none, none, none])) (h := fun u_21 => s1) ws_skip (fun u_21 => (.yes (.yes (.yes (.yes (.no (.no (.no (.no .nil))))))))))))) (fun s1 => (ws_retR (v := (gL (gOL eI))) (Γe := fun _ => []) (we_move (v := (gL (gOL eI))) (a := s1) (i := 3) rfl) (fun _ => .nil))))))))))), fun _ => .inl rfl, fun _ => (.flat0 (.im _) (.flat0 (.im _) .nil))⟩)
theorem w_closed_from (table : (List (Option (List Int)))) (station : Int) : WF B F_closed_from [((gL (gOL eI)) table), ((gM eI) station)] (Nt.closed_from table station) (gM (eS eI)) (fun _ => [((gL (gOL eI)) table), ((gM eI) station)]) :=
  wf_of (n := 5) (body := B_closed_from) (fun os hl => match os, hl with
    | [o0, o1], _ => ⟨fun a => .rt ((gM (eS eI)) a) ([some (o0, ((gL (gOL eI)) table))]), fun _ => [some (o0, ((gL (gOL eI)) table))], (show WS B [some (o0, ((gL (gOL eI)) table)), some (o1, ((gM eI) station)), none, none, none] B_closed_from (Nt.closed_from table station) (fun a => .rt ((gM (eS eI)) a) ([some (o0, ((gL (gOL eI)) table))])) from
      (ws_seq (ws_set (i := 2) (v := (gL (gM eI))) (we_new (wp_lst (e := eI) (xs := [station]) (wvs_cons (wv_name (i := 1) rfl) wvs_nil) (Nat.le_of_ble_eq_true rfl)) lst_new) (fun _ => (Nat.le_of_ble_eq_true rfl))) (fun row => (ws_seq (ws_set (i := 3) (v := (gM eI)) (we_v (e := eI) (a := (0 : Int)) (wv_int 0)) (fun _ => (Nat.le_of_ble_eq_true rfl))) (fun at_ => (ws_seqLp (h' := (fun r => r)) (ws_whileL (Gs := (fun (s : (List Int) × Int) => [some (o0, ((gL (gOL eI)) table)), some (o1, ((gM eI) station)), some (none, ((gL (gM eI)) s.1)), some (none, ((gM eI) s.2)), none])) (v := (gM (eS eI))) (Γe := fun _ => [some (o0, ((gL (gOL eI)) table))]) (s0 := (row, at_)) (.yes (.yes (.yes (.yes (.no .nil))))) (fun _ => rfl) (fun s => (wt_b (wb_v (wv_lt (wv_name (i := 3) rfl) (wv_un (ec := eI) (op := (fun xs => (xs.length : Int))) (op1_lenL (v := (gM eI))) (wp_name (i := 2) (v := (gL (gM eI))) (a := s.1) rfl)))))) (fun s => (ws_ifX (h := Ctl.ret) (wt_q (wq_p (wp_isNO (wp_bin (op := atW) (op2_ixR (v := (gOL eI))) (wp_name (i := 0) (v := (gL (gOL eI))) (a := table) rfl) (wp_bin1 (op := atW) (Op2W.r (op2_ixL (eb := eI))) (wp_name (i := 2) (v := (gL (gM eI))) (a := s.1) rfl) (wp_pure (e := eI) (a := s.2) (wv_name (i := 3) rfl))))))) (ws_retR (v := (gM (eS eI))) (Γe := fun _ => [some (o0, ((gL (gOL eI)) table))]) (we_v (e := (eS eI)) (a := ([] : (List Int))) (wv_tup wvs_nil (Nat.le_of_ble_eq_true rfl))) (fun _ => (.yes .nil))) (fun _ _ h => by cases h) (fun _ => rfl) (ws_skipseq (ws_seq (ws_forB (e := eI) (k := 0) (tbl := table) (Gs := (fun (s1 : (List Int)) => [some (o0, ((gL (gOL eI)) table)), some (o1, ((gM eI) station)), some (none, ((gL (gM eI)) s1)), some (none, ((gM eI) s.2)), none])) (s0 := s.1) (wp_bin1 (op := atW) (Op2W.r (op2_ixL (eb := eI))) (wp_name (i := 2) (v := (gL (gM eI))) (a := s.1) rfl) (wp_pure (e := eI) (a := s.2) (wv_name (i := 3) rfl))) (fun _ => rfl) (.yes (.yes (.yes (.yes (.no .nil))))) (fun _ => rfl) (fun ps_31 other s1 => (tg_n (i := 4) (Nat.le_of_ble_eq_true rfl))) (fun ps_31 other s1 => (ws_ifB (wb_v (wv_bin (ec := eB) (op := (fun x xs => !decide (x ∈ xs))) (op2_ninL eqI) (wp_pure (e := eI) (a := other) (wv_name (i := 4) rfl)) (wp_name (i := 2) (v := (gL (gM eI))) (a := s1) rfl))) (ws_to (G2 := (fun (s1 : (List Int)) => [some (o0, .lsp ps_31 (table.map (gOL eI))), some (o1, ((gM eI) station)), some (none, ((gL (gM eI)) s1)), some (none, ((gM eI) s.2)), none])) (h := fun row2 => row2) (ws_expr (we_append (v := (gM eI)) (xs := s1) (i := 2) rfl (we_v (e := eI) (a := other) (wv_name (i := 4) rfl)))) (fun row2 => (.yes (.yes (.yes (.yes (.no .nil))))))) (ws_to (G2 := (fun (s1 : (List Int)) => [some (o0, .lsp ps_31 (table.map (gOL eI))), some (o1, ((gM eI) station)), some (none, ((gL (gM eI)) s1)), some (none, ((gM eI) s.2)), none])) (h := fun u_33 => s1) ws_skip (fun u_33 => (.yes (.yes (.yes (.yes (.no .nil)))))))))) (fun s1 => (ws_toJ (h := fun at_1 => Ctl.next (s1, at_1)) (G2 := fun at_1 => ((fun (s : (List Int) × Int) => [some (o0, ((gL (gOL eI)) table)), some (o1, ((gM eI) station)), some (none, ((gL (gM eI)) s.1)), some (none, ((gM eI) s.2)), none])) (s1, at_1)) (ws_aug (i := 3) (x := s.2) (op := fun i j => i + j) rfl (wp_pure (e := eI) (a := (1 : Int)) (wv_int 1))) (fun _ => rfl) (fun at_1 => (.yes (.yes (.yes (.yes (.no .nil))))))))))))) (fun s => (ws_retR (v := (gM (eS eI))) (Γe := fun _ => [some (o0, ((gL (gOL eI)) table))]) (we_un (op1 := idW) (op1_tuple (eb := eI)) (we_un1 (op1 := sortW) op1_sortXI (wp_name (i := 2) (v := (gL (gM eI))) (a := s.1) rfl))) (fun _ => (.yes .nil)))) (fun _ => rfl))))))), fun _ => .inl rfl, fun _ => (.obj (.lst _) (.flat0 (.im _) .nil))⟩)
theorem w_closure (net : ((List Int) × (List (Int × Int)))) (standing : (List (Option Wy))) (station : Int) : WF B F_closure [((gM (eP (eS eI) (eS (eP eI eI)))) net), ((gM (eS (eO eW))) standing), ((gM eI) station)] (Nt.closure net standing station) (gM (eS eI)) (fun _ => [((gM (eP (eS eI) (eS (eP eI eI)))) net), ((gM (eS (eO eW))) standing), ((gM eI) station)]) :=
  wf_of (n := 3) (body := B_closure) (fun os hl => match os, hl with
    | [o0, o1, o2], _ => ⟨fun a => .rt ((gM (eS eI)) a) ([]), fun _ => [], (show WS B [some (o0, ((gM (eP (eS eI) (eS (eP eI eI)))) net)), some (o1, ((gM (eS (eO eW))) standing)), some (o2, ((gM eI) station))] B_closure (Nt.closure net standing station) (fun a => .rt ((gM (eS eI)) a) ([])) from
      (ws_retR (v := (gM (eS eI))) (Γe := fun _ => []) (we_callE (n := fun a_39 => Nt.closed_from (a_39) (station)) (wa_e (v := (gL (gOL eI))) (we_callP (pa_v (wv_name (i := 0) rfl) (pa_v (wv_name (i := 1) rfl) pa_nil)) (.own (.own .nil)) (w_wanted (net) (standing)) (fun _ => (.own (.own .nil))) (fun _ => rfl)) (fun _ => (pa_v (wv_name (i := 2) rfl) pa_nil))) (fun a_39 => (.own (.own .nil))) (fun a_39 => w_closed_from (a_39) (station)) (fun _ _ => (.own (.own .nil)))) (fun _ => .nil))), fun _ => .inl rfl, fun _ => (.flat0 (.im _) (.flat0 (.im _) (.flat0 (.im _) .nil)))⟩)
theorem w_law_rails (many : Int) : WF B F_law_rails [G.bag, ((gM eI) many)] (Nt.law_rails many) (gM (eP (eS eI) (eS (eP eI eI)))) (fun _ => [G.bag, ((gM eI) many)]) :=
  wf_of (n := 8) (body := B_law_rails) (fun os hl => match os, hl with
    | [o0, o1], _ => ⟨fun a => .rt ((gM (eP (eS eI) (eS (eP eI eI)))) a) ([]), fun _ => [], (show WS B [some (o0, G.bag), some (o1, ((gM eI) many)), none, none, none, none, none, none] B_law_rails (Nt.law_rails many) (fun a => .rt ((gM (eP (eS eI) (eS (eP eI eI)))) a) ([])) from
      (ws_seq (ws_par (i := 3) (j := 4) (g1 := fun a_42 => ((gM eI) a_42.1)) (g2 := fun a_42 => ((gL (gM (eP eI eI))) a_42.2)) (wa_ee (v := (gM eI)) (we_callP (pa_bag (i := 0) rfl (pa_v (wv_int 4) pa_nil)) (.own (.own .nil)) (w_law_draw ((4 : Int))) (fun _ => (.own (.own .nil))) (fun _ => rfl)) (fun _ => (wa_e (v := (gL (gM (eP eI eI)))) (we_new (wp_lst (e := (eP eI eI)) (xs := []) wvs_nil (Nat.le_of_ble_eq_true rfl)) lst_new) (fun _ => pa_nil)))) (fun _ => rfl) (fun _ => (Nat.le_of_ble_eq_true rfl)) (fun _ => (Nat.le_of_ble_eq_true rfl))) (fun a_42 => (ws_seq (ws_forP (e := eI) (Gs := (fun (s : (List (Int × Int))) => [some (o0, G.bag), some (o1, ((gM eI) many)), none, some (none, ((gM eI) a_42.1)), some (none, ((gL (gM (eP eI eI))) s)), none, none, none])) (s0 := a_42.2) (wi_rng1' (wp_pure (e := eI) (a := many) (wv_name (i := 1) rfl))) (.yes (.yes (.no (.yes (.yes (.no (.no (.no .nil)))))))) (fun _ => rfl) (fun i s => (tg_n (i := 2) (Nat.le_of_ble_eq_true rfl))) (fun i s => (ws_seq (ws_set (i := 5) (v := (gL (gM eI))) (we_if (wt_b (wb_v (wv_eq (e := eI) eqI (wv_name (i := 3) rfl) (wv_int 0)))) (we_new (wp_compF (p := (fun j => if (decide ((0 : Int) ≤ j) && decide (j < many)) = true then some j else none)) (eb := eI) (wip_t (e := eI) (wp_pure (e := (eS eI)) (a := ([(i - (1 : Int)), (i + (1 : Int))] : (List Int))) (wv_tup (wvs_cons (wv_sub (wv_name (i := 2) rfl) (wv_int 1)) (wvs_cons (wv_add (wv_name (i := 2) rfl) (wv_int 1)) wvs_nil)) (Nat.le_of_ble_eq_true rfl)))) (fun j => tr_n) (fun j => cf_if (wb_v (wv_chain (wv_int 0) (wv_name (i := 7) rfl) (wv_name (i := 1) rfl) (fun _ => rfl) (fun _ => rfl))) (wv_name (i := 7) rfl))) comp_new) (we_map (v' := (gL (gM eI))) (h := fun a_44 => [a_44]) (we_lstW (gs := fun a_44 => [.im (eI a_44)]) (wa_e (v := (gM eI)) (we_pm (wp_bin1 (op := modW) (Op2W.r op2_modW) (wp_pure (e := eI) (a := (i + (1 : Int))) (wv_int' (wv_add (wv_name (i := 2) rfl) (wv_int 1)))) (wp_pure (e := eI) (a := many) (wv_name (i := 1) rfl)))) (fun _ => pa_nil)) (fun _ => rfl) (fun _ => (Nat.le_of_ble_eq_true rfl))) (fun _ => rfl))) (fun _ => (Nat.le_of_ble_eq_true rfl))) (fun near => (ws_seq (ws_set (i := 5) (v := (gL (gM eI))) (we_ifG (wt_b (wb_v (wv_eq (e := eI) eqI (wv_name (i := 3) rfl) (wv_int 2)))) (we_drop (we_new (wp_compF (p := (fun j1 => if ((decide (j1 = (0 : Int))) || (decide (i = (0 : Int)))) = true then some j1 else none)) (eb := eI) (wip_rng1 (wp_pure (e := eI) (a := many) (wv_name (i := 1) rfl))) (fun j1 => tr_n) (fun j1 => cf_if (wb_or (wb_v (wv_eq (e := eI) eqI (wv_name (i := 7) rfl) (wv_int 0))) (wb_v (wv_eq (e := eI) eqI (wv_name (i := 2) rfl) (wv_int 0)))) (wv_name (i := 7) rfl))) comp_new) (.yes (.yes (.yes (.yes (.yes (.no (.no (.no .nil))))))))) (we_move (v := (gL (gM eI))) (a := near) (i := 5) rfl)) (fun _ => (Nat.le_of_ble_eq_true rfl))) (fun near1 => (ws_seq (ws_set (i := 5) (v := (gL (gM eI))) (we_ifG (wt_b (wb_v (wv_eq (e := eI) eqI (wv_name (i := 3) rfl) (wv_int 3)))) (we_drop (we_new (wp_lst (e := eI) (xs := []) wvs_nil (Nat.le_of_ble_eq_true rfl)) lst_new) (.yes (.yes (.yes (.yes (.yes (.no (.no (.no .nil))))))))) (we_move (v := (gL (gM eI))) (a := near1) (i := 5) rfl)) (fun _ => (Nat.le_of_ble_eq_true rfl))) (fun near2 => (ws_seq (ws_set (i := 6) (v := (gM eI)) (we_v (e := eI) (a := (if (decide (a_42.1 = (3 : Int))) = true then (3 : Int) else (7 : Int))) (wv_if (e := eI) (wb_v (wv_eq (e := eI) eqI (wv_name (i := 3) rfl) (wv_int 3))) (wv_int 3) (wv_int 7))) (fun _ => (Nat.le_of_ble_eq_true rfl))) (fun most => (ws_to (G2 := (fun (s : (List (Int × Int))) => [some (o0, G.bag), some (o1, ((gM eI) many)), none, some (none, ((gM eI) a_42.1)), some (none, ((gL (gM (eP eI eI))) s)), none, none, none])) (h := fun found => found) (ws_expr (we_extend (e := (eP eI eI)) (xs := s) (i := 4) rfl (we_comp (e := eI) (p := (fun j2 => (W.bind (W.bind (W.pure (!decide (j2 = i))) fun y_52 => W.ite y_52 (W.bind (W.pure ((decide (j2 ∈ near2)))) fun y_51 => W.ite y_51 (W.pure true) (W.bind (Nt.law_draw (most)) fun y_49 => (W.bind (W.pure (0 : Int)) fun y_50 => eqEW y_49 y_50))) (W.pure false)) fun b_53 => W.ite b_53 (W.map some (W.pure (i, j2))) (W.pure none)))) (v := (gM (eP eI eI))) (wi_rng1' (wp_pure (e := eI) (a := many) (wv_name (i := 1) rfl))) (fun j2 => (tg_n (i := 7) (Nat.le_of_ble_eq_true rfl))) (fun j2 => (.yes (.yes (.yes (.yes (.yes (.yes (.yes (.no .nil))))))))) (fun j2 => (ce_if (wt_and (wt_b (wb_v (wv_ne (e := eI) eqI (wv_name (i := 7) rfl) (wv_name (i := 2) rfl)))) (wt_or (wt_b (wb_v (wv_bin (ec := eB) (op := (fun x xs => decide (x ∈ xs))) (op2_inL eqI) (wp_pure (e := eI) (a := j2) (wv_name (i := 7) rfl)) (wp_name (i := 5) (v := (gL (gM eI))) (a := near2) rfl)))) (wt_e (we_binEP (op := eqEW) (op2_eqE (e := eI) eqI) (we_callP (pa_bag (i := 0) rfl (pa_v (wv_name (i := 6) rfl) pa_nil)) (.own (.own .nil)) (w_law_draw (most)) (fun _ => (.own (.own .nil))) (fun _ => rfl)) (wp_pure (e := eI) (a := (0 : Int)) (wv_int 0)))))) (we_v (e := (eP eI eI)) (a := (i, j2)) (wv_tup (wvs_cons (wv_name (i := 2) rfl) (wvs_cons (wv_name (i := 7) rfl) wvs_nil)) (Nat.le_of_ble_eq_true rfl)))))))) (fun found => (.yes (.yes (.no (.yes (.yes (.no (.no (.no .nil)))))))))))))))))))) (fun s => (ws_retR (v := (gM (eP (eS eI) (eS (eP eI eI))))) (Γe := fun _ => []) (we_map (v' := (gM (eP (eS eI) (eS (eP eI eI))))) (h := fun a_59 => (a_59, (s))) (we_tupW (ps := fun a_59 => [(eS eI) a_59, (eS (eP eI eI)) (s)]) (wa_e (v := (gM (eS eI))) (we_un (op1 := idW) (op1_tuple (eb := eI)) (we_comp (e := eI) (p := (fun i1 => W.map some (W.bind (W.pure ([(1 : Int), (1 : Int), (1 : Int), (2 : Int), (2 : Int), (3 : Int)] : List Int)) fun a_57 => Nt.law_pick (a_57)))) (v := (gM eI)) (wi_rng1' (wp_pure (e := eI) (a := many) (wv_name (i := 1) rfl))) (fun i1 => (tg_n (i := 2) (Nat.le_of_ble_eq_true rfl))) (fun i1 => (.yes (.yes (.no (.yes (.yes (.no (.no (.no .nil))))))))) (fun i1 => (ce_y (we_callE (n := fun a_57 => Nt.law_pick (a_57)) (wa_bag (i := 0) rfl (wa_e (v := (gL (gM eI))) (we_new (wp_lst (e := eI) (xs := [(1 : Int), (1 : Int), (1 : Int), (2 : Int), (2 : Int), (3 : Int)]) (wvs_cons (wv_int 1) (wvs_cons (wv_int 1) (wvs_cons (wv_int 1) (wvs_cons (wv_int 2) (wvs_cons (wv_int 2) (wvs_cons (wv_int 3) wvs_nil)))))) (Nat.le_of_ble_eq_true rfl)) lst_new) (fun _ => pa_nil))) (fun a_57 => (.own (.own .nil))) (fun a_57 => w_law_pick (a_57)) (fun _ _ => (.own (.own .nil)))))))) (fun _ => (pa_v (wv_un (ec := (eS (eP eI eI))) (op := (fun xs => xs)) (op1_tuple (eb := (eP eI eI))) (wp_name (i := 4) (v := (gL (gM (eP eI eI)))) (a := s) rfl)) pa_nil))) (fun _ => rfl) (fun _ => (Nat.le_of_ble_eq_true rfl))) (fun _ => rfl)) (fun _ => .nil))))))), fun _ => .inl rfl, fun _ => (.flat0 (.bag) (.flat0 (.im _) .nil))⟩)
theorem w_law_path : ∀ (k : Nat) (rails : ((List Int) × (List (Int × Int)))) (spot : Int) (deep : Int) (inner : (List Int)), WF B (F_law_path k) [G.bag, ((gM (eP (eS eI) (eS (eP eI eI)))) rails), ((gM eI) spot), ((gM eI) deep), ((gL (gM eI)) inner)] (Nt.law_path k rails spot deep inner) (gM eW) (fun _ => [G.bag, ((gM (eP (eS eI) (eS (eP eI eI)))) rails), ((gM eI) spot), ((gM eI) deep), ((gL (gM eI)) inner)])
  | 0, rails, spot, deep, inner => wf_no
  | k + 1, rails, spot, deep, inner => wf_of (n := 11) (body := B_law_path (F_law_path k)) (fun os hl => match os, hl with
    | [o0, o1, o2, o3, o4], _ => ⟨fun a => .rt ((gM eW) a) ([none, none, none, none, some (o4, ((gL (gM eI)) inner))]), fun _ => [none, none, none, none, some (o4, ((gL (gM eI)) inner))], (show WS B [some (o0, G.bag), some (o1, ((gM (eP (eS eI) (eS (eP eI eI)))) rails)), some (o2, ((gM eI) spot)), some (o3, ((gM eI) deep)), some (o4, ((gL (gM eI)) inner)), none, none, none, none, none, none] (B_law_path (F_law_path k)) (Nt.law_path (k + 1) rails spot deep inner) (fun a => .rt ((gM eW) a) ([none, none, none, none, some (o4, ((gL (gM eI)) inner))])) from
      (ws_seq (ws_set (i := 5) (v := (gL (gM eI))) (we_new (wp_compF (p := (fun pair => if ((decide (pair.1 = spot)) && ((decide (pair.2 ∈ inner)))) = true then some pair.2 else none)) (eb := eI) (wip_t (e := (eP eI eI)) (wp_pure (e := (eS (eP eI eI))) (a := rails.2) (wv_ix (n := 1) (wv_name (i := 1) rfl) rfl))) (fun pair => (tr_tm (trs_cons tr_n (trs_cons tr_n trs_nil)))) (fun pair => cf_if (wb_and (wb_v (wv_eq (e := eI) eqI (wv_name (i := 8) rfl) (wv_name (i := 2) rfl))) (wb_v (wv_bin (ec := eB) (op := (fun x xs => decide (x ∈ xs))) (op2_inL eqI) (wp_pure (e := eI) (a := pair.2) (wv_name (i := 9) rfl)) (wp_name (i := 4) (v := (gL (gM eI))) (a := inner) rfl)))) (wv_name (i := 9) rfl))) comp_new) (fun _ => (Nat.le_of_ble_eq_true rfl))) (fun menu => (ws_ifX (h := (fun z => z)) (wt_b (wb_or (wb_v (wv_eq (e := eI) eqI (wv_name (i := 3) rfl) (wv_int 0))) (wb_v (wv_bin (ec := eB) (op := (fun xs ys => decide (xs = ys))) (op2_eqL eqI) (wp_name (i := 5) (v := (gL (gM eI))) (a := menu) rfl) (wp_lst (e := eI) (xs := []) wvs_nil (Nat.le_of_ble_eq_true rfl)))))) (ws_retR (v := (gM eW)) (Γe := fun _ => [none, none, none, none, some (o4, ((gL (gM eI)) inner))]) (we_pm (wp_toWy (wp_pure (e := (eP eI (eS eW))) (a := (spot, [])) (wv_tup (wvs_cons (wv_name (i := 2) rfl) (wvs_cons (wv_tup wvs_nil (Nat.le_of_ble_eq_true rfl)) wvs_nil)) (Nat.le_of_ble_eq_true rfl))))) (fun _ => (.no (.no (.no (.no (.yes .nil))))))) (fun _ _ h => by cases h) (fun _ => rfl) (ws_skipseq (ws_seq (ws_set (i := 6) (v := (gL (gM eI))) (we_un (op1 := sortW) op1_sortXI (we_slE (e := eI) (we_callP (pa_bag (i := 0) rfl (pa_var (i := 5) rfl pa_nil)) (.own (.var rfl .nil)) (w_law_mixed eqI (menu)) (fun _ => (.own (.var rfl (Nat.le_of_ble_eq_true rfl) .nil))) (fun _ => rfl)) (we_callE (n := fun a_61 => Nt.law_pick (a_61)) (wa_bag (i := 0) rfl (wa_e (v := (gL (gM eI))) (we_new (wp_lst (e := eI) (xs := [(1 : Int), (1 : Int), (1 : Int), (2 : Int), (3 : Int)]) (wvs_cons (wv_int 1) (wvs_cons (wv_int 1) (wvs_cons (wv_int 1) (wvs_cons (wv_int 2) (wvs_cons (wv_int 3) wvs_nil))))) (Nat.le_of_ble_eq_true rfl)) lst_new) (fun _ => pa_nil))) (fun a_61 => (.own (.own .nil))) (fun a_61 => w_law_pick (a_61)) (fun _ _ => (.own (.own .nil)))))) (fun _ => (Nat.le_of_ble_eq_true rfl))) (fun some_ => (ws_seq (ws_set (i := 7) (v := (gL (gM eI))) (we_new (wp_lrng (wp_pure (e := eI) (a := (rails.1.length : Int)) (wv_lenS (e := eI) (wv_ix (n := 0) (wv_name (i := 1) rfl) rfl)))) lrng_new) (fun _ => (Nat.le_of_ble_eq_true rfl))) (fun every => (ws_retR (v := (gM eW)) (Γe := fun _ => [none, none, none, none, some (o4, ((gL (gM eI)) inner))]) (we_toWy (we_map (v' := (gM (eP eI (eS eW)))) (h := fun a_67 => (spot, a_67)) (we_tupW (ps := fun a_67 => [eI spot, (eS eW) a_67]) (wa_v (wv_name (i := 2) rfl) (wa_e (v := (gM (eS eW))) (we_un (op1 := idW) (op1_tuple (eb := eW)) (we_compV (k := 6) (e := eI) (xs := some_) (p := (fun own => W.map some (W.bind (Nt.law_draw (deep)) fun a_64 => Nt.law_path k (rails) (own) (a_64) (every)))) (v := (gM eW)) (wiv 6) rfl (by decide) (fun n_66 own => (tg_n (i := 10) (Nat.le_of_ble_eq_true rfl))) (fun n_66 own => (.yes (.yes (.yes (.yes (.yes (.yes (.yes (.yes (.no (.no (.no .nil)))))))))))) (fun n_66 own => (ce_y (we_callE (n := fun a_64 => Nt.law_path k (rails) (own) (a_64) (every)) (wa_bag (i := 0) rfl (wa_v (wv_name (i := 1) rfl) (wa_v (wv_name (i := 10) rfl) (wa_e (v := (gM eI)) (we_callP (pa_bag (i := 0) rfl (pa_v (wv_name (i := 3) rfl) pa_nil)) (.own (.own .nil)) (w_law_draw (deep)) (fun _ => (.own (.own .nil))) (fun _ => rfl)) (fun _ => (pa_var (i := 7) rfl pa_nil)))))) (fun a_64 => (.own (.own (.own (.own (.var rfl .nil)))))) (fun a_64 => w_law_path k (rails) (own) (a_64) (every)) (fun _ _ => (.own (.own (.own (.own (.var rfl (Nat.le_of_ble_eq_true rfl) .nil))))))))))) (fun _ => pa_nil))) (fun _ => rfl) (fun _ => (Nat.le_of_ble_eq_true rfl))) (fun _ => rfl))) (fun _ => (.no (.no (.no (.no (.yes .nil)))))))))))))))), fun _ => .inl rfl, fun _ => (.flat (.bag) (.flat (.im _) (.flat (.im _) (.flat (.im _) (.obj (.lst _) .nil)))))⟩)
theorem w_law_loop (rails : ((List Int) × (List (Int × Int)))) (some_ : (List Int)) : WF B F_law_loop [G.bag, ((gM (eP (eS eI) (eS (eP eI eI)))) rails), ((gL (gM eI)) some_)] (Nt.law_loop rails some_) (gL (gM eI)) (fun _ => [G.bag, ((gM (eP (eS eI) (eS (eP eI eI)))) rails), ((gL (gM eI)) some_)]) :=
  wf_of (n := 9) (body := B_law_loop) (fun os hl => match os, hl with
    | [o0, o1, o2], _ => ⟨fun a => .rt ((gL (gM eI)) a) ([none, none, some (o2, ((gL (gM eI)) some_))]), fun _ => [none, none, some (o2, ((gL (gM eI)) some_))], (show WS B [some (o0, G.bag), some (o1, ((gM (eP (eS eI) (eS (eP eI eI)))) rails)), some (o2, ((gL (gM eI)) some_)), none, none, none, none, none, none] B_law_loop (Nt.law_loop rails some_) (fun a => .rt ((gL (gM eI)) a) ([none, none, some (o2, ((gL (gM eI)) some_))])) from
      (ws_seq (ws_set (i := 3) (v := (gL (gM eI))) (we_if (wt_b (wb_v (wv_bin (ec := eB) (op := (fun xs ys => !decide (xs = ys))) (op2_neL eqI) (wp_name (i := 2) (v := (gL (gM eI))) (a := some_) rfl) (wp_lst (e := eI) (xs := []) wvs_nil (Nat.le_of_ble_eq_true rfl))))) (we_map (v' := (gL (gM eI))) (h := fun a_69 => [a_69]) (we_lstW (gs := fun a_69 => [.im (eI a_69)]) (wa_e (v := (gM eI)) (we_callP (pa_bag (i := 0) rfl (pa_var (i := 2) rfl pa_nil)) (.own (.var rfl .nil)) (w_law_pick (some_)) (fun _ => (.own (.var rfl (Nat.le_of_ble_eq_true rfl) .nil))) (fun _ => rfl)) (fun _ => pa_nil)) (fun _ => rfl) (fun _ => (Nat.le_of_ble_eq_true rfl))) (fun _ => rfl)) (we_new (wp_lst (e := eI) (xs := []) wvs_nil (Nat.le_of_ble_eq_true rfl)) lst_new)) (fun _ => (Nat.le_of_ble_eq_true rfl))) (fun seen => (ws_seqLp (h' := (fun r => r)) (ws_forLP (e := eI) (Gs := (fun (s : (List Int)) => [some (o0, G.bag), some (o1, ((gM (eP (eS eI) (eS (eP eI eI)))) rails)), some (o2, ((gL (gM eI)) some_)), some (none, ((gL (gM eI)) s)), none, none, none, none, none])) (v := (gL (gM eI))) (Γe := fun _ => [none, none, some (o2, ((gL (gM eI)) some_))]) (s0 := seen) (wi_rng1' (wp_pure (e := eI) (a := ((some_.length : Int))) (wv_un (ec := eI) (op := (fun xs => (xs.length : Int))) (op1_lenL (v := (gM eI))) (wp_name (i := 2) (v := (gL (gM eI))) (a := some_) rfl)))) (.yes (.yes (.yes (.yes (.no (.no (.no (.no (.no .nil))))))))) (fun _ => rfl) (fun turn s => (tg_n (i := 4) (Nat.le_of_ble_eq_true rfl))) (fun turn s => (ws_seq (ws_set (i := 5) (v := (gL (gM eI))) (we_new (wp_comp (p := (fun pair => (W.bind (W.bind (W.bind (W.pure pair.1) fun y_71 => (W.bind (atW s (-(1 : Int))) fun y_72 => eqEW y_71 y_72)) fun y_73 => W.ite y_73 (W.pure ((decide (pair.2 ∈ some_)))) (W.pure false)) fun b_74 => W.ite b_74 (W.map some (W.pure pair.2)) (W.pure none)))) (eb := eI) (wip_t (e := (eP eI eI)) (wp_pure (e := (eS (eP eI eI))) (a := rails.2) (wv_ix (n := 1) (wv_name (i := 1) rfl) rfl))) (fun pair => (tr_tm (trs_cons tr_n (trs_cons tr_n trs_nil)))) (fun pair => cp_if (wq_and (wq_p (wp_bin' (op := eqEW) (op2_eqE (e := eI) eqI) (wp_pure (e := eI) (a := pair.1) (wv_name (i := 7) rfl)) (wp_bin1 (op := atW) (Op2W.r (op2_ixL (eb := eI))) (wp_name (i := 3) (v := (gL (gM eI))) (a := s) rfl) (wp_pure (e := eI) (a := (-(1 : Int))) (wv_neg (wv_int 1)))))) (wq_b (wb_v (wv_bin (ec := eB) (op := (fun x xs => decide (x ∈ xs))) (op2_inL eqI) (wp_pure (e := eI) (a := pair.2) (wv_name (i := 8) rfl)) (wp_name (i := 2) (v := (gL (gM eI))) (a := some_) rfl))))) (wp_pure (e := eI) (a := pair.2) (wv_name (i := 8) rfl)))) comp_new) (fun _ => (Nat.le_of_ble_eq_true rfl))) (fun menu => (ws_ifX (h := Ctl.ret) (wt_b (wb_v (wv_bin (ec := eB) (op := (fun xs ys => decide (xs = ys))) (op2_eqL eqI) (wp_name (i := 5) (v := (gL (gM eI))) (a := menu) rfl) (wp_lst (e := eI) (xs := []) wvs_nil (Nat.le_of_ble_eq_true rfl))))) (ws_retR (v := (gL (gM eI))) (Γe := fun _ => [none, none, some (o2, ((gL (gM eI)) some_))]) (we_new (wp_lst (e := eI) (xs := []) wvs_nil (Nat.le_of_ble_eq_true rfl)) lst_new) (fun _ => (.no (.no (.yes .nil))))) (fun _ _ h => by cases h) (fun _ => rfl) (ws_skipseq (ws_seq (ws_set (i := 6) (v := (gM eI)) (we_callP (pa_bag (i := 0) rfl (pa_var (i := 5) rfl pa_nil)) (.own (.var rfl .nil)) (w_law_pick (menu)) (fun _ => (.own (.var rfl (Nat.le_of_ble_eq_true rfl) .nil))) (fun _ => rfl)) (fun _ => (Nat.le_of_ble_eq_true rfl))) (fun own => (ws_ifX (h := Ctl.ret) (wt_b (wb_v (wv_bin (ec := eB) (op := (fun x xs => decide (x ∈ xs))) (op2_inL eqI) (wp_pure (e := eI) (a := own) (wv_name (i := 6) rfl)) (wp_name (i := 3) (v := (gL (gM eI))) (a := s) rfl)))) (ws_retR (v := (gL (gM eI))) (Γe := fun _ => [none, none, some (o2, ((gL (gM eI)) some_))]) (we_slP (e := eI) (wp_name (i := 3) (v := (gL (gM eI))) (a := s) rfl) (wp_index (xs := s) (i := 3) rfl (wp_pure (e := eI) (a := own) (wv_name (i := 6) rfl)))) (fun _ => (.no (.no (.yes .nil))))) (fun _ _ h => by cases h) (fun _ => rfl) (ws_skipseq (ws_toJ (h := fun seen1 => Ctl.next seen1) (G2 := fun seen1 => ((fun (s : (List Int)) => [some (o0, G.bag), some (o1, ((gM (eP (eS eI) (eS (eP eI eI)))) rails)), some (o2, ((gL (gM eI)) some_)), some (none, ((gL (gM eI)) s)), none, none, none, none, none])) seen1) (ws_expr (we_append (v := (gM eI)) (xs := s) (i := 3) rfl (we_v (e := eI) (a := own) (wv_name (i := 6) rfl)))) (fun _ => rfl) (fun seen1 => (.yes (.yes (.yes (.yes (.no (.no (.no (.no (.no .nil))))))))))))))))))))) (fun s => (ws_retR (v := (gL (gM eI))) (Γe := fun _ => [none, none, some (o2, ((gL (gM eI)) some_))]) (we_new (wp_lst (e := eI) (xs := []) wvs_nil (Nat.le_of_ble_eq_true rfl)) lst_new) (fun _ => (.no (.no (.yes .nil)))))) (fun _ => rfl))))), fun _ => .inl rfl, fun _ => (.flat (.bag) (.flat (.im _) (.obj (.lst _) .nil)))⟩)
theorem w_law_scene (rails : ((List Int) × (List (Int × Int)))) : WF B F_law_scene [G.bag, ((gM (eP (eS eI) (eS (eP eI eI)))) rails)] (Nt.law_scene rails) (gM (eS (eO eW))) (fun _ => [G.bag, ((gM (eP (eS eI) (eS (eP eI eI)))) rails)]) :=
  wf_of (n := 10) (body := B_law_scene) (fun os hl => match os, hl with
    | [o0, o1], _ => ⟨fun a => .rt ((gM (eS (eO eW))) a) ([]), fun _ => [], (show WS B [some (o0, G.bag), some (o1, ((gM (eP (eS eI) (eS (eP eI eI)))) rails)), none, none, none, none, none, none, none, none] B_law_scene (Nt.law_scene rails) (fun a => .rt ((gM (eS (eO eW))) a) ([])) from
      (ws_seq (ws_par (i := 4) (j := 5) (g1 := fun a_86 => ((gL (gM eI)) a_86.1)) (g2 := fun a_86 => ((gL (gM (eO eW))) a_86.2)) (wa_ee (v := (gL (gM eI))) (we_new (wp_lrng (wp_pure (e := eI) (a := (rails.1.length : Int)) (wv_lenS (e := eI) (wv_ix (n := 0) (wv_name (i := 1) rfl) rfl)))) lrng_new) (fun _ => (wa_e (v := (gL (gM (eO eW)))) (we_new (wp_lst (e := (eO eW)) (xs := []) wvs_nil (Nat.le_of_ble_eq_true rfl)) lst_new) (fun _ => pa_nil)))) (fun _ => rfl) (fun _ => (Nat.le_of_ble_eq_true rfl)) (fun _ => (Nat.le_of_ble_eq_true rfl))) (fun a_86 => (ws_seq (ws_set (i := 2) (v := (gL (gM eI))) (we_if (wt_e (we_binEP (op := (fun i j => ltW j i)) op2_gtW (we_callP (pa_bag (i := 0) rfl (pa_v (wv_int 5) pa_nil)) (.own (.own .nil)) (w_law_draw ((5 : Int))) (fun _ => (.own (.own .nil))) (fun _ => rfl)) (wp_pure (e := eI) (a := (0 : Int)) (wv_int 0)))) (we_callP (pa_bag (i := 0) rfl (pa_v (wv_name (i := 1) rfl) (pa_var (i := 4) rfl pa_nil))) (.own (.own (.var rfl .nil))) (w_law_loop (rails) (a_86.1)) (fun _ => (.own (.own (.var rfl (Nat.le_of_ble_eq_true rfl) .nil)))) (fun _ => rfl)) (we_new (wp_lst (e := eI) (xs := []) wvs_nil (Nat.le_of_ble_eq_true rfl)) lst_new)) (fun _ => (Nat.le_of_ble_eq_true rfl))) (fun one => (ws_seq (ws_set (i := 3) (v := (gL (gM eI))) (we_callE (n := fun a_91 => Nt.law_loop (rails) (a_91)) (wa_bag (i := 0) rfl (wa_v (wv_name (i := 1) rfl) (wa_e (v := (gL (gM eI))) (we_new (wp_compF (p := (fun spot => if (!decide (spot ∈ one)) = true then some spot else none)) (eb := eI) (wip_l (wp_name (i := 4) (v := (gL (gM eI))) (a := a_86.1) rfl)) (fun spot => tr_n) (fun spot => cf_if (wb_v (wv_bin (ec := eB) (op := (fun x xs => !decide (x ∈ xs))) (op2_ninL eqI) (wp_pure (e := eI) (a := spot) (wv_name (i := 6) rfl)) (wp_name (i := 2) (v := (gL (gM eI))) (a := one) rfl))) (wv_name (i := 6) rfl))) comp_new) (fun _ => pa_nil)))) (fun a_91 => (.own (.own (.own .nil)))) (fun a_91 => w_law_loop (rails) (a_91)) (fun _ _ => (.own (.own (.own .nil))))) (fun _ => (Nat.le_of_ble_eq_true rfl))) (fun other => (ws_seq (ws_forP (e := (eP eI eI)) (Gs := (fun (s : (List (Option Wy))) => [some (o0, G.bag), some (o1, ((gM (eP (eS eI) (eS (eP eI eI)))) rails)), some (none, ((gL (gM eI)) one)), some (none, ((gL (gM eI)) other)), some (none, ((gL (gM eI)) a_86.1)), some (none, ((gL (gM (eO eW))) s)), none, none, none, none])) (s0 := a_86.2) (wi_enumS (e := eI) (wv_ix (n := 0) (wv_name (i := 1) rfl) rfl)) (.yes (.yes (.yes (.yes (.yes (.yes (.no (.no (.no (.no .nil)))))))))) (fun _ => rfl) (fun pair s => (tg_t (tgs_cons (tg_n (i := 6) (Nat.le_of_ble_eq_true rfl)) (tgs_cons (tg_n (i := 7) (Nat.le_of_ble_eq_true rfl)) tgs_nil)))) (fun pair s => (ws_ifset (wt_b (wb_v (wv_bin (ec := eB) (op := (fun x xs => decide (x ∈ xs))) (op2_inL eqI) (wp_pure (e := eI) (a := pair.1) (wv_name (i := 6) rfl)) (wp_name (i := 2) (v := (gL (gM eI))) (a := one) rfl)))) (ws_alias (i := 2) (j := 8) (o := none) (g := ((gL (gM eI)) one)) (Gx := (fun n_ => ((((fun (s : (List (Option Wy))) => [some (o0, G.bag), some (o1, ((gM (eP (eS eI) (eS (eP eI eI)))) rails)), some (none, ((gL (gM eI)) one)), some (none, ((gL (gM eI)) other)), some (none, ((gL (gM eI)) a_86.1)), some (none, ((gL (gM (eO eW))) s)), none, none, none, none])) n_).set 2 none).set 8 none)) (by decide) rfl (.lst _) (Nat.le_of_ble_eq_true rfl) (fun _ _ _ => rfl) (fix_for (fix_tgN (by decide)) (fix_if fix_expr fix_expr)) (fun n_94 => (ws_to (G2 := (fun n_ => (((fun n_ => ((((fun (s : (List (Option Wy))) => [some (o0, G.bag), some (o1, ((gM (eP (eS eI) (eS (eP eI eI)))) rails)), some (none, ((gL (gM eI)) one)), some (none, ((gL (gM eI)) other)), some (none, ((gL (gM eI)) a_86.1)), some (none, ((gL (gM (eO eW))) s)), none, none, none, none])) n_).set 2 none).set 8 none)) n_).set 8 (pn n_94 ((gL (gM eI)) one)))) (h := fun s1 => s1) (ws_forP (e := eI) (Gs := (fun (s1 : (List (Option Wy))) => [some (o0, G.bag), some (o1, ((gM (eP (eS eI) (eS (eP eI eI)))) rails)), none, some (none, ((gL (gM eI)) other)), some (none, ((gL (gM eI)) a_86.1)), some (none, ((gL (gM (eO eW))) s1)), some (none, ((gM eI) pair.1)), some (none, ((gM eI) pair.2)), some (some n_94, ((gL (gM eI)) one)), none])) (s0 := s) (wi_rng1 (we_if (wt_and (wt_b (wb_v (wv_bin (ec := eB) (op := (fun xs ys => !decide (xs = ys))) (op2_neL eqI) (wp_name (i := 8) (v := (gL (gM eI))) (a := one) rfl) (wp_lst (e := eI) (xs := []) wvs_nil (Nat.le_of_ble_eq_true rfl))))) (wt_e (we_binEP (op := (fun i j => ltW j i)) op2_gtW (we_callP (pa_bag (i := 0) rfl (pa_v (wv_int 12) pa_nil)) (.own (.own .nil)) (w_law_draw ((12 : Int))) (fun _ => (.own (.own .nil))) (fun _ => rfl)) (wp_pure (e := eI) (a := (0 : Int)) (wv_int 0))))) (we_v (e := eI) (a := pair.2) (wv_name (i := 7) rfl)) (we_callP (pa_bag (i := 0) rfl (pa_v (wv_add (wv_name (i := 7) rfl) (wv_int 1)) pa_nil)) (.own (.own .nil)) (w_law_draw ((pair.2 + (1 : Int)))) (fun _ => (.own (.own .nil))) (fun _ => rfl)))) (.yes (.yes (.no (.yes (.yes (.yes (.yes (.yes (.yes (.no .nil)))))))))) (fun _ => rfl) (fun turn s1 => (tg_n (i := 9) (Nat.le_of_ble_eq_true rfl))) (fun turn s1 => (ws_if (wt_and (wt_b (wb_v (wv_bin (ec := eB) (op := (fun xs ys => !decide (xs = ys))) (op2_neL eqI) (wp_name (i := 8) (v := (gL (gM eI))) (a := one) rfl) (wp_lst (e := eI) (xs := []) wvs_nil (Nat.le_of_ble_eq_true rfl))))) (wt_e (we_binEP (op := (fun i j => ltW j i)) op2_gtW (we_callP (pa_bag (i := 0) rfl (pa_v (wv_int 20) pa_nil)) (.own (.own .nil)) (w_law_draw ((20 : Int))) (fun _ => (.own (.own .nil))) (fun _ => rfl)) (wp_pure (e := eI) (a := (0 : Int)) (wv_int 0))))) (ws_to (G2 := (fun (s1 : (List (Option Wy))) => [some (o0, G.bag), some (o1, ((gM (eP (eS eI) (eS (eP eI eI)))) rails)), none, some (none, ((gL (gM eI)) other)), some (none, ((gL (gM eI)) a_86.1)), some (none, ((gL (gM (eO eW))) s1)), some (none, ((gM eI) pair.1)), some (none, ((gM eI) pair.2)), some (some n_94, ((gL (gM eI)) one)), none])) (h := fun found => found) (ws_expr (we_append (v := (gM (eO eW))) (xs := s1) (i := 5) rfl (we_map (v' := (gM (eO eW))) (we_callE (n := fun a_104 => Nt.law_path 8 (rails) (pair.1) (a_104) (one)) (wa_bag (i := 0) rfl (wa_v (wv_name (i := 1) rfl) (wa_v (wv_name (i := 6) rfl) (wa_e (v := (gM eI)) (we_binVE (ea := eI) (a := (1 : Int)) (op := addW) op2_addW (wv_int 1) (we_callP (pa_bag (i := 0) rfl (pa_v (wv_int 3) pa_nil)) (.own (.own .nil)) (w_law_draw ((3 : Int))) (fun _ => (.own (.own .nil))) (fun _ => rfl))) (fun _ => (pa_var (i := 8) rfl pa_nil)))))) (fun a_104 => (.own (.own (.own (.own (.var rfl .nil)))))) (fun a_104 => w_law_path 8 (rails) (pair.1) (a_104) (one)) (fun _ _ => (.own (.own (.own (.own (.var rfl (Nat.le_of_ble_eq_true rfl) .nil))))))) (fun _ => rfl)))) (fun found => (.yes (.yes (.no (.yes (.yes (.yes (.yes (.yes (.yes (.no .nil)))))))))))) (ws_to (G2 := (fun (s1 : (List (Option Wy))) => [some (o0, G.bag), some (o1, ((gM (eP (eS eI) (eS (eP eI eI)))) rails)), none, some (none, ((gL (gM eI)) other)), some (none, ((gL (gM eI)) a_86.1)), some (none, ((gL (gM (eO eW))) s1)), some (none, ((gM eI) pair.1)), some (none, ((gM eI) pair.2)), some (some n_94, ((gL (gM eI)) one)), none])) (h := fun found1 => found1) (ws_expr (we_append (v := (gM (eO eW))) (xs := s1) (i := 5) rfl (we_map (v' := (gM (eO eW))) (we_callE (n := fun a_106 => Nt.law_path 8 (rails) (pair.1) (a_106) (a_86.1)) (wa_bag (i := 0) rfl (wa_v (wv_name (i := 1) rfl) (wa_v (wv_name (i := 6) rfl) (wa_e (v := (gM eI)) (we_callP (pa_bag (i := 0) rfl (pa_v (wv_int 4) pa_nil)) (.own (.own .nil)) (w_law_draw ((4 : Int))) (fun _ => (.own (.own .nil))) (fun _ => rfl)) (fun _ => (pa_var (i := 4) rfl pa_nil)))))) (fun a_106 => (.own (.own (.own (.own (.var rfl .nil)))))) (fun a_106 => w_law_path 8 (rails) (pair.1) (a_106) (a_86.1)) (fun _ _ => (.own (.own (.own (.own (.var rfl (Nat.le_of_ble_eq_true rfl) .nil))))))) (fun _ => rfl)))) (fun found1 => (.yes (.yes (.no (.yes (.yes (.yes (.yes (.yes (.yes (.no .nil))))))))))))))) (fun s1 => (.yes (.yes (.no (.yes (.yes (.yes (.no (.no (.yes (.no .nil))))))))))))) (fun _ => rfl)) (ws_ifset (wt_b (wb_v (wv_bin (ec := eB) (op := (fun x xs => decide (x ∈ xs))) (op2_inL eqI) (wp_pure (e := eI) (a := pair.1) (wv_name (i := 6) rfl)) (wp_name (i := 3) (v := (gL (gM eI))) (a := other) rfl)))) (ws_alias (i := 3) (j := 8) (o := none) (g := ((gL (gM eI)) other)) (Gx := (fun n_ => ((((fun (s : (List (Option Wy))) => [some (o0, G.bag), some (o1, ((gM (eP (eS eI) (eS (eP eI eI)))) rails)), some (none, ((gL (gM eI)) one)), some (none, ((gL (gM eI)) other)), some (none, ((gL (gM eI)) a_86.1)), some (none, ((gL (gM (eO eW))) s)), none, none, none, none])) n_).set 3 none).set 8 none)) (by decide) rfl (.lst _) (Nat.le_of_ble_eq_true rfl) (fun _ _ _ => rfl) (fix_for (fix_tgN (by decide)) (fix_if fix_expr fix_expr)) (fun n_111 => (ws_to (G2 := (fun n_ => (((fun n_ => ((((fun (s : (List (Option Wy))) => [some (o0, G.bag), some (o1, ((gM (eP (eS eI) (eS (eP eI eI)))) rails)), some (none, ((gL (gM eI)) one)), some (none, ((gL (gM eI)) other)), some (none, ((gL (gM eI)) a_86.1)), some (none, ((gL (gM (eO eW))) s)), none, none, none, none])) n_).set 3 none).set 8 none)) n_).set 8 (pn n_111 ((gL (gM eI)) other)))) (h := fun s2 => s2) (ws_forP (e := eI) (Gs := (fun (s2 : (List (Option Wy))) => [some (o0, G.bag), some (o1, ((gM (eP (eS eI) (eS (eP eI eI)))) rails)), some (none, ((gL (gM eI)) one)), none, some (none, ((gL (gM eI)) a_86.1)), some (none, ((gL (gM (eO eW))) s2)), some (none, ((gM eI) pair.1)), some (none, ((gM eI) pair.2)), some (some n_111, ((gL (gM eI)) other)), none])) (s0 := s) (wi_rng1 (we_if (wt_and (wt_b (wb_v (wv_bin (ec := eB) (op := (fun xs ys => !decide (xs = ys))) (op2_neL eqI) (wp_name (i := 8) (v := (gL (gM eI))) (a := other) rfl) (wp_lst (e := eI) (xs := []) wvs_nil (Nat.le_of_ble_eq_true rfl))))) (wt_e (we_binEP (op := (fun i j => ltW j i)) op2_gtW (we_callP (pa_bag (i := 0) rfl (pa_v (wv_int 12) pa_nil)) (.own (.own .nil)) (w_law_draw ((12 : Int))) (fun _ => (.own (.own .nil))) (fun _ => rfl)) (wp_pure (e := eI) (a := (0 : Int)) (wv_int 0))))) (we_v (e := eI) (a := pair.2) (wv_name (i := 7) rfl)) (we_callP (pa_bag (i := 0) rfl (pa_v (wv_add (wv_name (i := 7) rfl) (wv_int 1)) pa_nil)) (.own (.own .nil)) (w_law_draw ((pair.2 + (1 : Int)))) (fun _ => (.own (.own .nil))) (fun _ => rfl)))) (.yes (.yes (.yes (.no (.yes (.yes (.yes (.yes (.yes (.no .nil)))))))))) (fun _ => rfl) (fun turn1 s2 => (tg_n (i := 9) (Nat.le_of_ble_eq_true rfl))) (fun turn1 s2 => (ws_if (wt_and (wt_b (wb_v (wv_bin (ec := eB) (op := (fun xs ys => !decide (xs = ys))) (op2_neL eqI) (wp_name (i := 8) (v := (gL (gM eI))) (a := other) rfl) (wp_lst (e := eI) (xs := []) wvs_nil (Nat.le_of_ble_eq_true rfl))))) (wt_e (we_binEP (op := (fun i j => ltW j i)) op2_gtW (we_callP (pa_bag (i := 0) rfl (pa_v (wv_int 20) pa_nil)) (.own (.own .nil)) (w_law_draw ((20 : Int))) (fun _ => (.own (.own .nil))) (fun _ => rfl)) (wp_pure (e := eI) (a := (0 : Int)) (wv_int 0))))) (ws_to (G2 := (fun (s2 : (List (Option Wy))) => [some (o0, G.bag), some (o1, ((gM (eP (eS eI) (eS (eP eI eI)))) rails)), some (none, ((gL (gM eI)) one)), none, some (none, ((gL (gM eI)) a_86.1)), some (none, ((gL (gM (eO eW))) s2)), some (none, ((gM eI) pair.1)), some (none, ((gM eI) pair.2)), some (some n_111, ((gL (gM eI)) other)), none])) (h := fun found2 => found2) (ws_expr (we_append (v := (gM (eO eW))) (xs := s2) (i := 5) rfl (we_map (v' := (gM (eO eW))) (we_callE (n := fun a_121 => Nt.law_path 8 (rails) (pair.1) (a_121) (other)) (wa_bag (i := 0) rfl (wa_v (wv_name (i := 1) rfl) (wa_v (wv_name (i := 6) rfl) (wa_e (v := (gM eI)) (we_binVE (ea := eI) (a := (1 : Int)) (op := addW) op2_addW (wv_int 1) (we_callP (pa_bag (i := 0) rfl (pa_v (wv_int 3) pa_nil)) (.own (.own .nil)) (w_law_draw ((3 : Int))) (fun _ => (.own (.own .nil))) (fun _ => rfl))) (fun _ => (pa_var (i := 8) rfl pa_nil)))))) (fun a_121 => (.own (.own (.own (.own (.var rfl .nil)))))) (fun a_121 => w_law_path 8 (rails) (pair.1) (a_121) (other)) (fun _ _ => (.own (.own (.own (.own (.var rfl (Nat.le_of_ble_eq_true rfl) .nil))))))) (fun _ => rfl)))) (fun found2 => (.yes (.yes (.yes (.no (.yes (.yes (.yes (.yes (.yes (.no .nil)))))))))))) (ws_to (G2 := (fun (s2 : (List (Option Wy))) => [some (o0, G.bag), some (o1, ((gM (eP (eS eI) (eS (eP eI eI)))) rails)), some (none, ((gL (gM eI)) one)), none, some (none, ((gL (gM eI)) a_86.1)), some (none, ((gL (gM (eO eW))) s2)), some (none, ((gM eI) pair.1)), some (none, ((gM eI) pair.2)), some (some n_111, ((gL (gM eI)) other)), none])) (h := fun found3 => found3) (ws_expr (we_append (v := (gM (eO eW))) (xs := s2) (i := 5) rfl (we_map (v' := (gM (eO eW))) (we_callE (n := fun a_123 => Nt.law_path 8 (rails) (pair.1) (a_123) (a_86.1)) (wa_bag (i := 0) rfl (wa_v (wv_name (i := 1) rfl) (wa_v (wv_name (i := 6) rfl) (wa_e (v := (gM eI)) (we_callP (pa_bag (i := 0) rfl (pa_v (wv_int 4) pa_nil)) (.own (.own .nil)) (w_law_draw ((4 : Int))) (fun _ => (.own (.own .nil))) (fun _ => rfl)) (fun _ => (pa_var (i := 4) rfl pa_nil)))))) (fun a_123 => (.own (.own (.own (.own (.var rfl .nil)))))) (fun a_123 => w_law_path 8 (rails) (pair.1) (a_123) (a_86.1)) (fun _ _ => (.own (.own (.own (.own (.var rfl (Nat.le_of_ble_eq_true rfl) .nil))))))) (fun _ => rfl)))) (fun found3 => (.yes (.yes (.yes (.no (.yes (.yes (.yes (.yes (.yes (.no .nil))))))))))))))) (fun s2 => (.yes (.yes (.yes (.no (.yes (.yes (.no (.no (.yes (.no .nil))))))))))))) (fun _ => rfl)) (ws_ifset (wt_e (we_binEP (op := eqEW) (op2_eqE (e := eI) eqI) (we_callP (pa_bag (i := 0) rfl (pa_v (wv_int 2) pa_nil)) (.own (.own .nil)) (w_law_draw ((2 : Int))) (fun _ => (.own (.own .nil))) (fun _ => rfl)) (wp_pure (e := eI) (a := (0 : Int)) (wv_int 0)))) (ws_seq (ws_set (i := 8) (v := (gL (gM eI))) (we_binPP (op := catW) op2_catL (wp_name (i := 2) (v := (gL (gM eI))) (a := one) rfl) (wp_name (i := 3) (v := (gL (gM eI))) (a := other) rfl)) (fun _ => (Nat.le_of_ble_eq_true rfl))) (fun inner2 => (ws_to (G2 := (fun (s : (List (Option Wy))) => [some (o0, G.bag), some (o1, ((gM (eP (eS eI) (eS (eP eI eI)))) rails)), some (none, ((gL (gM eI)) one)), some (none, ((gL (gM eI)) other)), some (none, ((gL (gM eI)) a_86.1)), some (none, ((gL (gM (eO eW))) s)), none, none, none, none])) (h := fun s3 => s3) (ws_forP (e := eI) (Gs := (fun (s3 : (List (Option Wy))) => [some (o0, G.bag), some (o1, ((gM (eP (eS eI) (eS (eP eI eI)))) rails)), some (none, ((gL (gM eI)) one)), some (none, ((gL (gM eI)) other)), some (none, ((gL (gM eI)) a_86.1)), some (none, ((gL (gM (eO eW))) s3)), some (none, ((gM eI) pair.1)), some (none, ((gM eI) pair.2)), some (none, ((gL (gM eI)) inner2)), none])) (s0 := s) (wi_rng1 (we_if (wt_and (wt_b (wb_v (wv_bin (ec := eB) (op := (fun xs ys => !decide (xs = ys))) (op2_neL eqI) (wp_name (i := 8) (v := (gL (gM eI))) (a := inner2) rfl) (wp_lst (e := eI) (xs := []) wvs_nil (Nat.le_of_ble_eq_true rfl))))) (wt_e (we_binEP (op := (fun i j => ltW j i)) op2_gtW (we_callP (pa_bag (i := 0) rfl (pa_v (wv_int 12) pa_nil)) (.own (.own .nil)) (w_law_draw ((12 : Int))) (fun _ => (.own (.own .nil))) (fun _ => rfl)) (wp_pure (e := eI) (a := (0 : Int)) (wv_int 0))))) (we_v (e := eI) (a := pair.2) (wv_name (i := 7) rfl)) (we_callP (pa_bag (i := 0) rfl (pa_v (wv_add (wv_name (i := 7) rfl) (wv_int 1)) pa_nil)) (.own (.own .nil)) (w_law_draw ((pair.2 + (1 : Int)))) (fun _ => (.own (.own .nil))) (fun _ => rfl)))) (.yes (.yes (.yes (.yes (.yes (.yes (.yes (.yes (.yes (.no .nil)))))))))) (fun _ => rfl) (fun turn2 s3 => (tg_n (i := 9) (Nat.le_of_ble_eq_true rfl))) (fun turn2 s3 => (ws_if (wt_and (wt_b (wb_v (wv_bin (ec := eB) (op := (fun xs ys => !decide (xs = ys))) (op2_neL eqI) (wp_name (i := 8) (v := (gL (gM eI))) (a := inner2) rfl) (wp_lst (e := eI) (xs := []) wvs_nil (Nat.le_of_ble_eq_true rfl))))) (wt_e (we_binEP (op := (fun i j => ltW j i)) op2_gtW (we_callP (pa_bag (i := 0) rfl (pa_v (wv_int 20) pa_nil)) (.own (.own .nil)) (w_law_draw ((20 : Int))) (fun _ => (.own (.own .nil))) (fun _ => rfl)) (wp_pure (e := eI) (a := (0 : Int)) (wv_int 0))))) (ws_to (G2 := (fun (s3 : (List (Option Wy))) => [some (o0, G.bag), some (o1, ((gM (eP (eS eI) (eS (eP eI eI)))) rails)), some (none, ((gL (gM eI)) one)), some (none, ((gL (gM eI)) other)), some (none, ((gL (gM eI)) a_86.1)), some (none, ((gL (gM (eO eW))) s3)), some (none, ((gM eI) pair.1)), some (none, ((gM eI) pair.2)), some (none, ((gL (gM eI)) inner2)), none])) (h := fun found4 => found4) (ws_expr (we_append (v := (gM (eO eW))) (xs := s3) (i := 5) rfl (we_map (v' := (gM (eO eW))) (we_callE (n := fun a_140 => Nt.law_path 8 (rails) (pair.1) (a_140) (inner2)) (wa_bag (i := 0) rfl (wa_v (wv_name (i := 1) rfl) (wa_v (wv_name (i := 6) rfl) (wa_e (v := (gM eI)) (we_binVE (ea := eI) (a := (1 : Int)) (op := addW) op2_addW (wv_int 1) (we_callP (pa_bag (i := 0) rfl (pa_v (wv_int 3) pa_nil)) (.own (.own .nil)) (w_law_draw ((3 : Int))) (fun _ => (.own (.own .nil))) (fun _ => rfl))) (fun _ => (pa_var (i := 8) rfl pa_nil)))))) (fun a_140 => (.own (.own (.own (.own (.var rfl .nil)))))) (fun a_140 => w_law_path 8 (rails) (pair.1) (a_140) (inner2)) (fun _ _ => (.own (.own (.own (.own (.var rfl (Nat.le_of_ble_eq_true rfl) .nil))))))) (fun _ => rfl)))) (fun found4 => (.yes (.yes (.yes (.yes (.yes (.yes (.yes (.yes (.yes (.no .nil)))))))))))) (ws_to (G2 := (fun (s3 : (List (Option Wy))) => [some (o0, G.bag), some (o1, ((gM (eP (eS eI) (eS (eP eI eI)))) rails)), some (none, ((gL (gM eI)) one)), some (none, ((gL (gM eI)) other)), some (none, ((gL (gM eI)) a_86.1)), some (none, ((gL (gM (eO eW))) s3)), some (none, ((gM eI) pair.1)), some (none, ((gM eI) pair.2)), some (none, ((gL (gM eI)) inner2)), none])) (h := fun found5 => found5) (ws_expr (we_append (v := (gM (eO eW))) (xs := s3) (i := 5) rfl (we_map (v' := (gM (eO eW))) (we_callE (n := fun a_142 => Nt.law_path 8 (rails) (pair.1) (a_142) (a_86.1)) (wa_bag (i := 0) rfl (wa_v (wv_name (i := 1) rfl) (wa_v (wv_name (i := 6) rfl) (wa_e (v := (gM eI)) (we_callP (pa_bag (i := 0) rfl (pa_v (wv_int 4) pa_nil)) (.own (.own .nil)) (w_law_draw ((4 : Int))) (fun _ => (.own (.own .nil))) (fun _ => rfl)) (fun _ => (pa_var (i := 4) rfl pa_nil)))))) (fun a_142 => (.own (.own (.own (.own (.var rfl .nil)))))) (fun a_142 => w_law_path 8 (rails) (pair.1) (a_142) (a_86.1)) (fun _ _ => (.own (.own (.own (.own (.var rfl (Nat.le_of_ble_eq_true rfl) .nil))))))) (fun _ => rfl)))) (fun found5 => (.yes (.yes (.yes (.yes (.yes (.yes (.yes (.yes (.yes (.no .nil))))))))))))))) (fun s3 => (.yes (.yes (.yes (.yes (.yes (.yes (.no (.no (.no (.no .nil)))))))))))))) (ws_seq (ws_set (i := 8) (v := (gL (gM eI))) (we_new (wp_lst (e := eI) (xs := []) wvs_nil (Nat.le_of_ble_eq_true rfl)) lst_new) (fun _ => (Nat.le_of_ble_eq_true rfl))) (fun inner3 => (ws_to (G2 := (fun (s : (List (Option Wy))) => [some (o0, G.bag), some (o1, ((gM (eP (eS eI) (eS (eP eI eI)))) rails)), some (none, ((gL (gM eI)) one)), some (none, ((gL (gM eI)) other)), some (none, ((gL (gM eI)) a_86.1)), some (none, ((gL (gM (eO eW))) s)), none, none, none, none])) (h := fun s4 => s4) (ws_forP (e := eI) (Gs := (fun (s4 : (List (Option Wy))) => [some (o0, G.bag), some (o1, ((gM (eP (eS eI) (eS (eP eI eI)))) rails)), some (none, ((gL (gM eI)) one)), some (none, ((gL (gM eI)) other)), some (none, ((gL (gM eI)) a_86.1)), some (none, ((gL (gM (eO eW))) s4)), some (none, ((gM eI) pair.1)), some (none, ((gM eI) pair.2)), some (none, ((gL (gM eI)) inner3)), none])) (s0 := s) (wi_rng1 (we_if (wt_and (wt_b (wb_v (wv_bin (ec := eB) (op := (fun xs ys => !decide (xs = ys))) (op2_neL eqI) (wp_name (i := 8) (v := (gL (gM eI))) (a := inner3) rfl) (wp_lst (e := eI) (xs := []) wvs_nil (Nat.le_of_ble_eq_true rfl))))) (wt_e (we_binEP (op := (fun i j => ltW j i)) op2_gtW (we_callP (pa_bag (i := 0) rfl (pa_v (wv_int 12) pa_nil)) (.own (.own .nil)) (w_law_draw ((12 : Int))) (fun _ => (.own (.own .nil))) (fun _ => rfl)) (wp_pure (e := eI) (a := (0 : Int)) (wv_int 0))))) (we_v (e := eI) (a := pair.2) (wv_name (i := 7) rfl)) (we_callP (pa_bag (i := 0) rfl (pa_v (wv_add (wv_name (i := 7) rfl) (wv_int 1)) pa_nil)) (.own (.own .nil)) (w_law_draw ((pair.2 + (1 : Int)))) (fun _ => (.own (.own .nil))) (fun _ => rfl)))) (.yes (.yes (.yes (.yes (.yes (.yes (.yes (.yes (.yes (.no .nil)))))))))) (fun _ => rfl) (fun turn3 s4 => (tg_n (i := 9) (Nat.le_of_ble_eq_true rfl))) (fun turn3 s4 => (ws_if (wt_and (wt_b (wb_v (wv_bin (ec := eB) (op := (fun xs ys => !decide (xs = ys))) (op2_neL eqI) (wp_name (i := 8) (v := (gL (gM eI))) (a := inner3) rfl) (wp_lst (e := eI) (xs := []) wvs_nil (Nat.le_of_ble_eq_true rfl))))) (wt_e (we_binEP (op := (fun i j => ltW j i)) op2_gtW (we_callP (pa_bag (i := 0) rfl (pa_v (wv_int 20) pa_nil)) (.own (.own .nil)) (w_law_draw ((20 : Int))) (fun _ => (.own (.own .nil))) (fun _ => rfl)) (wp_pure (e := eI) (a := (0 : Int)) (wv_int 0))))) (ws_to (G2 := (fun (s4 : (List (Option Wy))) => [some (o0, G.bag), some (o1, ((gM (eP (eS eI) (eS (eP eI eI)))) rails)), some (none, ((gL (gM eI)) one)), some (none, ((gL (gM eI)) other)), some (none, ((gL (gM eI)) a_86.1)), some (none, ((gL (gM (eO eW))) s4)), some (none, ((gM eI) pair.1)), some (none, ((gM eI) pair.2)), some (none, ((gL (gM eI)) inner3)), none])) (h := fun found6 => found6) (ws_expr (we_append (v := (gM (eO eW))) (xs := s4) (i := 5) rfl (we_map (v' := (gM (eO eW))) (we_callE (n := fun a_154 => Nt.law_path 8 (rails) (pair.1) (a_154) (inner3)) (wa_bag (i := 0) rfl (wa_v (wv_name (i := 1) rfl) (wa_v (wv_name (i := 6) rfl) (wa_e (v := (gM eI)) (we_binVE (ea := eI) (a := (1 : Int)) (op := addW) op2_addW (wv_int 1) (we_callP (pa_bag (i := 0) rfl (pa_v (wv_int 3) pa_nil)) (.own (.own .nil)) (w_law_draw ((3 : Int))) (fun _ => (.own (.own .nil))) (fun _ => rfl))) (fun _ => (pa_var (i := 8) rfl pa_nil)))))) (fun a_154 => (.own (.own (.own (.own (.var rfl .nil)))))) (fun a_154 => w_law_path 8 (rails) (pair.1) (a_154) (inner3)) (fun _ _ => (.own (.own (.own (.own (.var rfl (Nat.le_of_ble_eq_true rfl) .nil))))))) (fun _ => rfl)))) (fun found6 => (.yes (.yes (.yes (.yes (.yes (.yes (.yes (.yes (.yes (.no .nil)))))))))))) (ws_to (G2 := (fun (s4 : (List (Option Wy))) => [some (o0, G.bag), some (o1, ((gM (eP (eS eI) (eS (eP eI eI)))) rails)), some (none, ((gL (gM eI)) one)), some (none, ((gL (gM eI)) other)), some (none, ((gL (gM eI)) a_86.1)), some (none, ((gL (gM (eO eW))) s4)), some (none, ((gM eI) pair.1)), some (none, ((gM eI) pair.2)), some (none, ((gL (gM eI)) inner3)), none])) (h := fun found7 => found7) (ws_expr (we_append (v := (gM (eO eW))) (xs := s4) (i := 5) rfl (we_map (v' := (gM (eO eW))) (we_callE (n := fun a_156 => Nt.law_path 8 (rails) (pair.1) (a_156) (a_86.1)) (wa_bag (i := 0) rfl (wa_v (wv_name (i := 1) rfl) (wa_v (wv_name (i := 6) rfl) (wa_e (v := (gM eI)) (we_callP (pa_bag (i := 0) rfl (pa_v (wv_int 4) pa_nil)) (.own (.own .nil)) (w_law_draw ((4 : Int))) (fun _ => (.own (.own .nil))) (fun _ => rfl)) (fun _ => (pa_var (i := 4) rfl pa_nil)))))) (fun a_156 => (.own (.own (.own (.own (.var rfl .nil)))))) (fun a_156 => w_law_path 8 (rails) (pair.1) (a_156) (a_86.1)) (fun _ _ => (.own (.own (.own (.own (.var rfl (Nat.le_of_ble_eq_true rfl) .nil))))))) (fun _ => rfl)))) (fun found7 => (.yes (.yes (.yes (.yes (.yes (.yes (.yes (.yes (.yes (.no .nil))))))))))))))) (fun s4 => (.yes (.yes (.yes (.yes (.yes (.yes (.no (.no (.no (.no .nil))))))))))))))))))) (fun s => (ws_retR (v := (gM (eS (eO eW)))) (Γe := fun _ => []) (we_un (op1 := idW) (op1_tuple (eb := (eO eW))) (we_callE (n := fun a_167 => Nt.law_mixed (a_167)) (wa_bag (i := 0) rfl (wa_e (v := (gL (gM (eO eW)))) (we_binNE (va := (gL (gM (eO eW)))) (a := s) (op := catW) op2_catL rfl (we_binEE (op := repW) op2_rep (we_new (wp_lst (e := (eO eW)) (xs := [none]) (wvs_cons wv_non wvs_nil) (Nat.le_of_ble_eq_true rfl)) lst_new) (we_callP (pa_bag (i := 0) rfl (pa_v (wv_int 3) pa_nil)) (.own (.own .nil)) (w_law_draw ((3 : Int))) (fun _ => (.own (.own .nil))) (fun _ => rfl)))) (fun _ => pa_nil))) (fun a_167 => (.own (.own .nil))) (fun a_167 => w_law_mixed (eqO eqW nnW) (a_167)) (fun _ _ => (.own (.own .nil))))) (fun _ => .nil))))))))))), fun _ => .inl rfl, fun _ => (.flat0 (.bag) (.flat0 (.im _) .nil))⟩)
theorem w_law_needs (rails : ((List Int) × (List (Int × Int)))) (scene : (List (Option Wy))) : WF B F_law_needs [((gM (eP (eS eI) (eS (eP eI eI)))) rails), ((gM (eS (eO eW))) scene)] (Nt.law_needs rails scene) (gL (gOL eI)) (fun _ => [((gM (eP (eS eI) (eS (eP eI eI)))) rails), ((gM (eS (eO eW))) scene)]) :=
  wf_of (n := 10) (body := B_law_needs) (fun os hl => match os, hl with
    | [o0, o1], _ => ⟨fun a => .rt ((gL (gOL eI)) a) ([]), fun _ => [], (show WS B [some (o0, ((gM (eP (eS eI) (eS (eP eI eI)))) rails)), some (o1, ((gM (eS (eO eW))) scene)), none, none, none, none, none, none, none, none] B_law_needs (Nt.law_needs rails scene) (fun a => .rt ((gL (gOL eI)) a) ([])) from
      (ws_seq (ws_set (i := 2) (v := (gL (gOL eI))) (we_nil (v := (gOL eI))) (fun _ => (Nat.le_of_ble_eq_true rfl))) (fun found => (ws_seq (ws_forP (e := (eP eI eI)) (Gs := (fun (s : (List (Option (List Int)))) => [some (o0, ((gM (eP (eS eI) (eS (eP eI eI)))) rails)), some (o1, ((gM (eS (eO eW))) scene)), some (none, ((gL (gOL eI)) s)), none, none, none, none, none, none, none])) (s0 := found) (wi_enumS (e := eI) (wv_ix (n := 0) (wv_name (i := 0) rfl) rfl)) (.yes (.yes (.yes (.no (.no (.no (.no (.no (.no (.no .nil)))))))))) (fun _ => rfl) (fun pair s => (tg_t (tgs_cons (tg_n (i := 3) (Nat.le_of_ble_eq_true rfl)) (tgs_cons (tg_n (i := 4) (Nat.le_of_ble_eq_true rfl)) tgs_nil)))) (fun pair s => (ws_seq (ws_par (i := 7) (j := 8) (g1 := fun a_172 => ((gL (gM eW)) a_172.1)) (g2 := fun a_172 => ((gL (gM eI)) a_172.2)) (wa_ee (v := (gL (gM eW))) (we_new (wp_compF (p := (fun way => match way with | none => none | some way1 => if (decide (way1.at = pair.1)) = true then some way1 else none)) (eb := eW) (wip_t (e := (eO eW)) (wp_pure (e := (eS (eO eW))) (a := scene) (wv_name (i := 1) rfl))) (fun way => tr_n) (fun way => match way with | none => (cf_no (wb_and1 (wb_notN (i := 5) rfl))) | some way1 => cf_if (wb_and2 (wb_notS (i := 5) (e := eW) nnW rfl) (wb_v (wv_eq (e := eI) eqI (wv_wat (wv_name (i := 5) rfl)) (wv_name (i := 3) rfl)))) (wv_name (i := 5) rfl))) comp_new) (fun _ => (wa_e (v := (gL (gM eI))) (we_new (wp_lst (e := eI) (xs := []) wvs_nil (Nat.le_of_ble_eq_true rfl)) lst_new) (fun _ => pa_nil)))) (fun _ => rfl) (fun _ => (Nat.le_of_ble_eq_true rfl)) (fun _ => (Nat.le_of_ble_eq_true rfl))) (fun a_172 => (ws_seq (ws_forV (e := eW) (xs := a_172.1) (Gs := (fun (s1 : (List Int)) => [some (o0, ((gM (eP (eS eI) (eS (eP eI eI)))) rails)), some (o1, ((gM (eS (eO eW))) scene)), some (none, ((gL (gOL eI)) s)), some (none, ((gM eI) pair.1)), some (none, ((gM eI) pair.2)), none, none, some (none, ((gL (gM eW)) a_172.1)), some (none, ((gL (gM eI)) s1)), none])) (s0 := a_172.2) (wiv 7) (fun _ => rfl) (.yes (.yes (.yes (.yes (.yes (.no (.no (.yes (.yes (.no .nil)))))))))) (fun _ => rfl) (fun n_175 way2 s1 => (tg_n (i := 5) (Nat.le_of_ble_eq_true rfl))) (fun n_175 way2 s1 => (ws_to (G2 := (fun (s1 : (List Int)) => [some (o0, ((gM (eP (eS eI) (eS (eP eI eI)))) rails)), some (o1, ((gM (eS (eO eW))) scene)), some (none, ((gL (gOL eI)) s)), some (none, ((gM eI) pair.1)), some (none, ((gM eI) pair.2)), none, none, some (some n_175, ((gL (gM eW)) a_172.1)), some (none, ((gL (gM eI)) s1)), none])) (h := fun wished1 => wished1) (ws_expr (we_extend (e := eI) (xs := s1) (i := 8) rfl (we_new (wp_compF (p := (fun own1 => some own1.at)) (eb := eI) (wip_t (e := eW) (wp_pure (e := (eS eW)) (a := way2.on) (wv_won (wv_name (i := 5) rfl)))) (fun own1 => tr_n) (fun own1 => cf_y (wv_wat (wv_name (i := 9) rfl)))) comp_new))) (fun wished1 => (.yes (.yes (.yes (.yes (.yes (.no (.no (.yes (.yes (.no .nil)))))))))))))) (fun s1 => (ws_seq (ws_set (i := 6) (v := (gM eB)) (we_pm (wp_orV (wp_pure (e := eB) (a := (decide (((a_172.1.length : Int)) < pair.2))) (wv_lt (wv_un (ec := eI) (op := (fun xs => (xs.length : Int))) (op1_lenL (v := (gM eW))) (wp_name (i := 7) (v := (gL (gM eW))) (a := a_172.1) rfl)) (wv_name (i := 4) rfl))) (wp_bin' (op := inW) (op2_inL (eqS eqW)) (wp_pure (e := (eS eW)) (a := ([] : (List Wy))) (wv_tup wvs_nil (Nat.le_of_ble_eq_true rfl))) (wp_compF (p := (fun way3 => some way3.on)) (eb := (eS eW)) (wip_l (wp_name (i := 7) (v := (gL (gM eW))) (a := a_172.1) rfl)) (fun way3 => tr_n) (fun way3 => cf_y (wv_won (wv_name (i := 5) rfl))))))) (fun _ => (Nat.le_of_ble_eq_true rfl))) (fun is_open => (ws_to (G2 := (fun (s : (List (Option (List Int)))) => [some (o0, ((gM (eP (eS eI) (eS (eP eI eI)))) rails)), some (o1, ((gM (eS (eO eW))) scene)), some (none, ((gL (gOL eI)) s)), none, none, none, none, none, none, none])) (h := fun found1 => found1) (ws_expr (we_append (v := (gOL eI)) (xs := s) (i := 2) rfl (we_if (wt_b (wb_v (wv_name (i := 6) rfl))) (we_map (v' := (gOL eI)) (h := fun _ => none) (we_v (e := eU) (a := ()) wv_non) (fun _ => rfl)) (we_map (v' := (gOL eI)) (h := some) (we_un (op1 := sortSI) op1_sortSI (we_un1 (op1 := setIW) op1_setI (wp_name (i := 8) (v := (gL (gM eI))) (a := s1) rfl))) (fun _ => rfl))))) (fun found1 => (.yes (.yes (.yes (.no (.no (.no (.no (.no (.no (.no .nil)))))))))))))))))))) (fun s => (ws_retR (v := (gL (gOL eI))) (Γe := fun _ => []) (we_move (v := (gL (gOL eI))) (a := s) (i := 2) rfl) (fun _ => .nil))))))), fun _ => .inl rfl, fun _ => (.flat0 (.im _) (.flat0 (.im _) .nil))⟩)
theorem w_law_lots (rails : ((List Int) × (List (Int × Int)))) (scene : (List (Option Wy))) : WF B F_law_lots [((gM (eP (eS eI) (eS (eP eI eI)))) rails), ((gM (eS (eO eW))) scene)] (Nt.law_lots rails scene) (gL (gM (eS eI))) (fun _ => [((gM (eP (eS eI) (eS (eP eI eI)))) rails), ((gM (eS (eO eW))) scene)]) :=
  wf_of (n := 8) (body := B_law_lots) (fun os hl => match os, hl with
    | [o0, o1], _ => ⟨fun a => .rt ((gL (gM (eS eI))) a) ([]), fun _ => [], (show WS B [some (o0, ((gM (eP (eS eI) (eS (eP eI eI)))) rails)), some (o1, ((gM (eS (eO eW))) scene)), none, none, none, none, none, none] B_law_lots (Nt.law_lots rails scene) (fun a => .rt ((gL (gM (eS eI))) a) ([])) from
      (ws_seq (ws_asgT (i := 3) (j := 4) (g1 := fun a_187 => ((gL (gOL eI)) a_187.1)) (g2 := fun a_187 => ((gL (gM (eS eI))) a_187.2)) (wa_ee (v := (gL (gOL eI))) (we_callP (pa_v (wv_name (i := 0) rfl) (pa_v (wv_name (i := 1) rfl) pa_nil)) (.own (.own .nil)) (w_law_needs (rails) (scene)) (fun _ => (.own (.own .nil))) (fun _ => rfl)) (fun _ => (wa_e (v := (gL (gM (eS eI)))) (we_new (wp_lst (e := (eS eI)) (xs := []) wvs_nil (Nat.le_of_ble_eq_true rfl)) lst_new) (fun _ => pa_nil)))) (fun _ => rfl) (fun _ => (Nat.le_of_ble_eq_true rfl)) (fun _ => (Nat.le_of_ble_eq_true rfl))) (fun a_187 => (ws_seq (ws_forP (e := eI) (Gs := (fun (s : (List (List Int))) => [some (o0, ((gM (eP (eS eI) (eS (eP eI eI)))) rails)), some (o1, ((gM (eS (eO eW))) scene)), none, some (none, ((gL (gOL eI)) a_187.1)), some (none, ((gL (gM (eS eI))) s)), none, none, none])) (s0 := a_187.2) (wi_rng2' (wp_pure (e := eI) (a := (1 : Int)) (wv_int 1)) (wp_bin1 (op := shlW) (Op2W.r op2_shlW) (wp_pure (e := eI) (a := (1 : Int)) (wv_int 1)) (wp_pure (e := eI) (a := ((a_187.1.length : Int))) (wv_un (ec := eI) (op := (fun xs => (xs.length : Int))) (op1_lenL (v := (gOL eI))) (wp_name (i := 3) (v := (gL (gOL eI))) (a := a_187.1) rfl))))) (.yes (.yes (.no (.yes (.yes (.no (.no (.no .nil)))))))) (fun _ => rfl) (fun mask s => (tg_n (i := 2) (Nat.le_of_ble_eq_true rfl))) (fun mask s => (ws_seq (ws_set (i := 5) (v := (gL (gM eI))) (we_new (wp_comp (p := (fun spot => (W.bind (W.bind (W.bind (shrW mask spot) fun y_190 => (W.bind (W.pure (1 : Int)) fun y_191 => andW y_190 y_191)) fun y_192 => (W.bind (W.pure (1 : Int)) fun y_193 => eqEW y_192 y_193)) fun b_194 => W.ite b_194 (W.map some (W.pure spot)) (W.pure none)))) (eb := eI) (wip_rng1 (wp_pure (e := eI) (a := ((a_187.1.length : Int))) (wv_un (ec := eI) (op := (fun xs => (xs.length : Int))) (op1_lenL (v := (gOL eI))) (wp_name (i := 3) (v := (gL (gOL eI))) (a := a_187.1) rfl)))) (fun spot => tr_n) (fun spot => cp_if (wq_p (wp_bin' (op := eqEW) (op2_eqE (e := eI) eqI) (wp_bin' (op := andW) op2_andW (wp_bin1 (op := shrW) (Op2W.r op2_shrW) (wp_pure (e := eI) (a := mask) (wv_name (i := 2) rfl)) (wp_pure (e := eI) (a := spot) (wv_name (i := 6) rfl))) (wp_pure (e := eI) (a := (1 : Int)) (wv_int 1))) (wp_pure (e := eI) (a := (1 : Int)) (wv_int 1)))) (wp_pure (e := eI) (a := spot) (wv_name (i := 6) rfl)))) comp_new) (fun _ => (Nat.le_of_ble_eq_true rfl))) (fun spots => (ws_if (wt_q (wq_p (wp_notInN eqI (wp_compR (p := (fun spot1 => W.map some (W.bind (W.pure a_187.1) fun y_196 => (W.bind (W.pure spot1) fun y_197 => atW y_196 y_197)))) (vb := (gOL eI)) (wip_l (wp_name (i := 5) (v := (gL (gM eI))) (a := spots) rfl)) (fun spot1 => tr_n) (fun spot1 => cpv_y (wp_bin (op := atW) (op2_ixR (v := (gOL eI))) (wp_name (i := 3) (v := (gL (gOL eI))) (a := a_187.1) rfl) (wp_pure (e := eI) (a := spot1) (wv_name (i := 6) rfl))) ix_val))))) (ws_if (wt_q (wq_p (wp_bin' (op := eqLW) (op2_eqL eqI) (wp_comp (p := (fun spot2 => (W.bind (W.bind (W.bind (W.bind (W.bind (W.pure a_187.1) fun y_200 => (W.bind (W.pure spot2) fun y_201 => atW y_200 y_201)) W.ofO) fun xs_203 => W.comF (fun own => if (!decide (own ∈ spots)) = true then some own else none) xs_203) fun y_204 => (W.bind (W.pure ([] : List Int)) fun y_205 => neLW y_204 y_205)) fun b_206 => W.ite b_206 (W.map some (W.pure spot2)) (W.pure none)))) (eb := eI) (wip_l (wp_name (i := 5) (v := (gL (gM eI))) (a := spots) rfl)) (fun spot2 => tr_n) (fun spot2 => cp_if (wq_p (wp_bin' (op := neLW) (op2_neL eqI) (wp_compF (p := (fun own => if (!decide (own ∈ spots)) = true then some own else none)) (eb := eI) (wip_l (wp_unO (wp_bin (op := atW) (op2_ixR (v := (gOL eI))) (wp_name (i := 3) (v := (gL (gOL eI))) (a := a_187.1) rfl) (wp_pure (e := eI) (a := spot2) (wv_name (i := 6) rfl))))) (fun own => tr_n) (fun own => cf_if (wb_v (wv_bin (ec := eB) (op := (fun x xs => !decide (x ∈ xs))) (op2_ninL eqI) (wp_pure (e := eI) (a := own) (wv_name (i := 7) rfl)) (wp_name (i := 5) (v := (gL (gM eI))) (a := spots) rfl))) (wv_name (i := 7) rfl))) (wp_lst (e := eI) (xs := []) wvs_nil (Nat.le_of_ble_eq_true rfl)))) (wp_pure (e := eI) (a := spot2) (wv_name (i := 6) rfl)))) (wp_lst (e := eI) (xs := []) wvs_nil (Nat.le_of_ble_eq_true rfl))))) (ws_to (G2 := (fun (s : (List (List Int))) => [some (o0, ((gM (eP (eS eI) (eS (eP eI eI)))) rails)), some (o1, ((gM (eS (eO eW))) scene)), none, some (none, ((gL (gOL eI)) a_187.1)), some (none, ((gL (gM (eS eI))) s)), none, none, none])) (h := fun found => found) (ws_expr (we_append (v := (gM (eS eI))) (xs := s) (i := 4) rfl (we_v (e := (eS eI)) (a := (spots)) (wv_un (ec := (eS eI)) (op := (fun xs => xs)) (op1_tuple (eb := eI)) (wp_name (i := 5) (v := (gL (gM eI))) (a := spots) rfl))))) (fun found => (.yes (.yes (.no (.yes (.yes (.no (.no (.no .nil)))))))))) (ws_to (G2 := (fun (s : (List (List Int))) => [some (o0, ((gM (eP (eS eI) (eS (eP eI eI)))) rails)), some (o1, ((gM (eS (eO eW))) scene)), none, some (none, ((gL (gOL eI)) a_187.1)), some (none, ((gL (gM (eS eI))) s)), none, none, none])) (h := fun u_211 => s) ws_skip (fun u_211 => (.yes (.yes (.no (.yes (.yes (.no (.no (.no .nil))))))))))) (ws_to (G2 := (fun (s : (List (List Int))) => [some (o0, ((gM (eP (eS eI) (eS (eP eI eI)))) rails)), some (o1, ((gM (eS (eO eW))) scene)), none, some (none, ((gL (gOL eI)) a_187.1)), some (none, ((gL (gM (eS eI))) s)), none, none, none])) (h := fun u_213 => s) ws_skip (fun u_213 => (.yes (.yes (.no (.yes (.yes (.no (.no (.no .nil))))))))))))))) (fun s => (ws_retR (v := (gL (gM (eS eI)))) (Γe := fun _ => []) (we_un1 (op1 := sortTW) op1_sortXT (wp_name (i := 4) (v := (gL (gM (eS eI)))) (a := s) rfl)) (fun _ => .nil))))))), fun _ => .inl rfl, fun _ => (.flat0 (.im _) (.flat0 (.im _) .nil))⟩)
theorem w_law : ∃ rest, B_law = fSeq (fSet 1 (fCall F_law_urn (fCons (fName 0) fNil))) rest ∧ WS B [none, some (none, G.bag), none, none, none, none, none, none, none, none, none, none, none, none] rest Nt.law (fun a => .rt (gM eB a) []) :=
  ⟨_, rfl, (ws_seqLp (h' := (fun r => r)) (ws_forLP (e := eI) (Gs := (fun (s : Unit) => [none, some (none, G.bag), none, none, none, none, none, none, none, none, none, none, none, none])) (v := (gM eB)) (Γe := fun _ => []) (s0 := ()) (wi_rng1' (wp_pure (e := eI) (a := (6 : Int)) (wv_int 6))) (.no (.yes (.no (.no (.no (.no (.no (.no (.no (.no (.no (.no (.no (.no .nil)))))))))))))) (fun _ => rfl) (fun turn s => (tg_n (i := 2) (Nat.le_of_ble_eq_true rfl))) (fun turn s => (ws_seq (ws_set (i := 3) (v := (gM (eP (eS eI) (eS (eP eI eI))))) (we_callE (n := fun a_217 => Nt.law_rails (a_217)) (wa_bag (i := 1) rfl (wa_e (v := (gM eI)) (we_binVE (ea := eI) (a := (2 : Int)) (op := addW) op2_addW (wv_int 2) (we_callP (pa_bag (i := 1) rfl (pa_v (wv_int 5) pa_nil)) (.own (.own .nil)) (w_law_draw ((5 : Int))) (fun _ => (.own (.own .nil))) (fun _ => rfl))) (fun _ => pa_nil))) (fun a_217 => (.own (.own .nil))) (fun a_217 => w_law_rails (a_217)) (fun _ _ => (.own (.own .nil)))) (fun _ => (Nat.le_of_ble_eq_true rfl))) (fun rails => (ws_seq (ws_set (i := 4) (v := (gM (eS (eO eW)))) (we_callP (pa_bag (i := 1) rfl (pa_v (wv_name (i := 3) rfl) pa_nil)) (.own (.own .nil)) (w_law_scene (rails)) (fun _ => (.own (.own .nil))) (fun _ => rfl)) (fun _ => (Nat.le_of_ble_eq_true rfl))) (fun scene => (ws_seq (ws_par (i := 6) (j := 7) (g1 := fun a_220 => ((gL (gM (eS eI))) a_220.1)) (g2 := fun a_220 => ((gM eSt) a_220.2)) (wa_ee (v := (gL (gM (eS eI)))) (we_callP (pa_v (wv_name (i := 3) rfl) (pa_v (wv_name (i := 4) rfl) pa_nil)) (.own (.own .nil)) (w_law_lots (rails) (scene)) (fun _ => (.own (.own .nil))) (fun _ => rfl)) (fun _ => (wa_e (v := (gM eSt)) (we_pm (wp_un1 (op1 := reprXW) op1_reprX (wp_lst (e := eX) (xs := [((eP (eS eI) (eS (eP eI eI))) rails), ((eS (eO eW)) scene)]) (wvs_cons (wv_name (i := 3) rfl) (wvs_cons (wv_name (i := 4) rfl) wvs_nil)) (Nat.le_of_ble_eq_true rfl)))) (fun _ => pa_nil)))) (fun _ => rfl) (fun _ => (Nat.le_of_ble_eq_true rfl)) (fun _ => (Nat.le_of_ble_eq_true rfl))) (fun a_220 => (ws_seqLp (h' := (fun r => Ctl.ret r)) (ws_forLP (e := eI) (Gs := (fun (s1 : Unit) => [none, some (none, G.bag), some (none, ((gM eI) turn)), some (none, ((gM (eP (eS eI) (eS (eP eI eI)))) rails)), some (none, ((gM (eS (eO eW))) scene)), none, some (none, ((gL (gM (eS eI))) a_220.1)), some (none, ((gM eSt) a_220.2)), none, none, none, none, none, none])) (v := (gM eB)) (Γe := fun _ => []) (s0 := ()) (wi_rng1' (wp_pure (e := eI) (a := (rails.1.length : Int)) (wv_lenS (e := eI) (wv_ix (n := 0) (wv_name (i := 3) rfl) rfl)))) (.no (.yes (.yes (.yes (.yes (.no (.yes (.yes (.no (.no (.no (.no (.no (.no .nil)))))))))))))) (fun _ => rfl) (fun spot s1 => (tg_n (i := 5) (Nat.le_of_ble_eq_true rfl))) (fun spot s1 => (ws_seq (ws_set (i := 8) (v := (gL (gM (eS eI)))) (we_new (wp_compF (p := (fun lot => if (decide (spot ∈ lot)) = true then some lot else none)) (eb := (eS eI)) (wip_l (wp_name (i := 6) (v := (gL (gM (eS eI)))) (a := a_220.1) rfl)) (fun lot => tr_n) (fun lot => cf_if (wb_v (wv_in (e := eI) eqI (wv_name (i := 5) rfl) (wv_name (i := 12) rfl))) (wv_name (i := 12) rfl))) comp_new) (fun _ => (Nat.le_of_ble_eq_true rfl))) (fun holding => (ws_seq (ws_set (i := 9) (v := (gM eI)) (we_pm (wp_if (wq_b (wb_v (wv_bin (ec := eB) (op := (fun xs ys => !decide (xs = ys))) (op2_neL (eqS eqI)) (wp_name (i := 8) (v := (gL (gM (eS eI)))) (a := holding) rfl) (wp_lst (e := (eS eI)) (xs := []) wvs_nil (Nat.le_of_ble_eq_true rfl))))) (wp_un (op1 := minW) op1_min (wp_compF (p := (fun lot1 => some (lot1.length : Int))) (eb := eI) (wip_l (wp_name (i := 8) (v := (gL (gM (eS eI)))) (a := holding) rfl)) (fun lot1 => tr_n) (fun lot1 => cf_y (wv_lenS (e := eI) (wv_name (i := 12) rfl))))) (wp_pure (e := eI) (a := (0 : Int)) (wv_int 0)))) (fun _ => (Nat.le_of_ble_eq_true rfl))) (fun least => (ws_seq (ws_set (i := 10) (v := (gL (gM (eS eI)))) (we_new (wp_compF (p := (fun lot2 => if (decide ((lot2.length : Int) = least)) = true then some lot2 else none)) (eb := (eS eI)) (wip_l (wp_name (i := 8) (v := (gL (gM (eS eI)))) (a := holding) rfl)) (fun lot2 => tr_n) (fun lot2 => cf_if (wb_v (wv_eq (e := eI) eqI (wv_lenS (e := eI) (wv_name (i := 12) rfl)) (wv_name (i := 9) rfl))) (wv_name (i := 12) rfl))) comp_new) (fun _ => (Nat.le_of_ble_eq_true rfl))) (fun due => (ws_seq (ws_set (i := 11) (v := (gM (eS eI))) (we_if (wt_b (wb_v (wv_eq (e := eI) eqI (wv_name (i := 5) rfl) (wv_name (i := 2) rfl)))) (we_callK (ix := [2, 1, 0]) (pa_v (wv_name (i := 5) rfl) (pa_v (wv_name (i := 4) rfl) (pa_v (wv_name (i := 3) rfl) pa_nil))) (.own (.own (.own .nil))) (w_closure (rails) (scene) (spot)) (fun _ => (.own (.own (.own .nil)))) (fun _ => rfl)) (we_callP (pa_v (wv_name (i := 3) rfl) (pa_v (wv_name (i := 4) rfl) (pa_v (wv_name (i := 5) rfl) pa_nil))) (.own (.own (.own .nil))) (w_closure (rails) (scene) (spot)) (fun _ => (.own (.own (.own .nil)))) (fun _ => rfl))) (fun _ => (Nat.le_of_ble_eq_true rfl))) (fun told => (ws_ifX (h := Ctl.ret) (wt_q (wq_p (wp_bin' (op := neStW) op2_neSt (wp_un1 (op1 := (fun xs => reprW (.list ((xs.map (eS eI)).map PV.pd)))) (op1_reprL (e := (eS eI)) (eqS eqI)) (wp_lst (e := (eS eI)) (xs := [told]) (wvs_cons (wv_name (i := 11) rfl) wvs_nil) (Nat.le_of_ble_eq_true rfl))) (wp_un (op1 := (fun xs => reprW (.list ((xs.map (eS eI)).map PV.pd)))) (op1_reprL (e := (eS eI)) (eqS eqI)) (wp_if (wq_b (wb_v (wv_bin (ec := eB) (op := (fun xs ys => !decide (xs = ys))) (op2_neL (eqS eqI)) (wp_name (i := 10) (v := (gL (gM (eS eI)))) (a := due) rfl) (wp_lst (e := (eS eI)) (xs := []) wvs_nil (Nat.le_of_ble_eq_true rfl))))) (wp_name (i := 10) (v := (gL (gM (eS eI)))) (a := due) rfl) (wp_lst (e := (eS eI)) (xs := [([] : (List Int))]) (wvs_cons (wv_tup wvs_nil (Nat.le_of_ble_eq_true rfl)) wvs_nil) (Nat.le_of_ble_eq_true rfl))))))) (ws_retR (v := (gM eB)) (Γe := fun _ => []) (we_v (e := eB) (a := false) (wv_bl false)) (fun _ => .nil)) (fun _ _ h => by cases h) (fun _ => rfl) (ws_skipseq (ws_ifX (h := Ctl.ret) (wt_q (wq_p (wp_bin' (op := neLW) (op2_neL (eqS eqI)) (wp_comp (p := (fun lot3 => (W.bind (W.bind (W.bind (W.pure told) fun xs_231 => W.comF (fun own => if (!decide (own ∈ lot3)) = true then some own else none) xs_231) fun y_232 => (W.bind (W.pure ([] : List Int)) fun y_233 => neLW y_232 y_233)) fun b_234 => W.ite b_234 (W.map some (W.pure lot3)) (W.pure none)))) (eb := (eS eI)) (wip_l (wp_name (i := 8) (v := (gL (gM (eS eI)))) (a := holding) rfl)) (fun lot3 => tr_n) (fun lot3 => cp_if (wq_p (wp_bin' (op := neLW) (op2_neL eqI) (wp_compF (p := (fun own => if (!decide (own ∈ lot3)) = true then some own else none)) (eb := eI) (wip_t (e := eI) (wp_pure (e := (eS eI)) (a := told) (wv_name (i := 11) rfl))) (fun own => tr_n) (fun own => cf_if (wb_v (wv_notIn (e := eI) eqI (wv_name (i := 13) rfl) (wv_name (i := 12) rfl))) (wv_name (i := 13) rfl))) (wp_lst (e := eI) (xs := []) wvs_nil (Nat.le_of_ble_eq_true rfl)))) (wp_pure (e := (eS eI)) (a := lot3) (wv_name (i := 12) rfl)))) (wp_lst (e := (eS eI)) (xs := []) wvs_nil (Nat.le_of_ble_eq_true rfl))))) (ws_retR (v := (gM eB)) (Γe := fun _ => []) (we_v (e := eB) (a := false) (wv_bl false)) (fun _ => .nil)) (fun _ _ h => by cases h) (fun _ => rfl) (ws_skipseq (ws_if (wt_e (we_binEP (op := neStW) op2_neSt (we_un (op1 := (fun x => reprW ((eS eI) x).pd)) (op1_repr (e := (eS eI)) (eqS eqI)) (we_callP (pa_v (wv_name (i := 3) rfl) (pa_v (wv_name (i := 4) rfl) (pa_v (wv_name (i := 5) rfl) pa_nil))) (.own (.own (.own .nil))) (w_closure (rails) (scene) (spot)) (fun _ => (.own (.own (.own .nil)))) (fun _ => rfl))) (wp_un1 (op1 := (fun x => reprW ((eS eI) x).pd)) (op1_repr (e := (eS eI)) (eqS eqI)) (wp_pure (e := (eS eI)) (a := told) (wv_name (i := 11) rfl))))) (ws_map (h := Ctl.ret) (ws_retR (v := (gM eB)) (Γe := fun _ => []) (we_v (e := eB) (a := false) (wv_bl false)) (fun _ => .nil)) (fun _ => rfl)) (ws_toJ (h := fun u_240 => Ctl.next ()) (G2 := fun u_240 => ((fun (s1 : Unit) => [none, some (none, G.bag), some (none, ((gM eI) turn)), some (none, ((gM (eP (eS eI) (eS (eP eI eI)))) rails)), some (none, ((gM (eS (eO eW))) scene)), none, some (none, ((gL (gM (eS eI))) a_220.1)), some (none, ((gM eSt) a_220.2)), none, none, none, none, none, none])) ()) ws_skip (fun _ => rfl) (fun u_240 => (.no (.yes (.yes (.yes (.yes (.no (.yes (.yes (.no (.no (.no (.no (.no (.no .nil))))))))))))))))))))))))))))))) (fun s1 => (ws_if (wt_q (wq_p (wp_bin' (op := neStW) op2_neSt (wp_un1 (op1 := reprXW) op1_reprX (wp_lst (e := eX) (xs := [((eP (eS eI) (eS (eP eI eI))) rails), ((eS (eO eW)) scene)]) (wvs_cons (wv_name (i := 3) rfl) (wvs_cons (wv_name (i := 4) rfl) wvs_nil)) (Nat.le_of_ble_eq_true rfl))) (wp_pure (e := eSt) (a := a_220.2) (wv_name (i := 7) rfl))))) (ws_map (h := Ctl.ret) (ws_retR (v := (gM eB)) (Γe := fun _ => []) (we_v (e := eB) (a := false) (wv_bl false)) (fun _ => .nil)) (fun _ => rfl)) (ws_toJ (h := fun u_247 => Ctl.next ()) (G2 := fun u_247 => ((fun (s : Unit) => [none, some (none, G.bag), none, none, none, none, none, none, none, none, none, none, none, none])) ()) ws_skip (fun _ => rfl) (fun u_247 => (.no (.yes (.no (.no (.no (.no (.no (.no (.no (.no (.no (.no (.no (.no .nil)))))))))))))))))) (fun _ => rfl)))))))))) (fun s => (ws_retR (v := (gM eB)) (Γe := fun _ => []) (we_v (e := eB) (a := true) (wv_bl true)) (fun _ => .nil))) (fun _ => rfl))⟩
end K26

set_option Elab.async false
set_option linter.all false
set_option maxRecDepth 100000
set_option maxHeartbeats 4000000
set_option autoImplicit false
namespace K26
open PySem PySem.Spec PyProof.Rows L2 Fx Fx.Urn
/-! ### what is drawn -/
theorem mem_rng {a v : Int} {n : Nat} : v ∈ rngP a n ↔ a ≤ v ∧ v < a + n := by
  induction n generalizing a with
  | zero => simp [rngP]
  | succ n ih =>
    unfold rngP
    simp only [List.mem_map, List.mem_range]
    constructor
    · rintro ⟨k, hk, rfl⟩; omega
    · intro ⟨h1, h2⟩; exact ⟨(v - a).toNat, by omega, by omega⟩
theorem len_rng {a : Int} {n : Nat} : (rngP a n).length = n := by
  simp [rngP]
theorem sp_rng1 {j : Int} (h : 0 ≤ j ∧ j < 1000) : Sp (rng1 j) (fun xs => xs = rngP 0 j.toNat) := sp_need ⟨by omega, by omega⟩ (sp_pure rfl)
theorem sp_lrng {j : Int} (h : 0 ≤ j ∧ j < 1000) : Sp (lrngW j) (fun xs => xs = rngP 0 j.toNat) := sp_need ⟨by omega, by omega⟩ (sp_pure rfl)
structure Rl (many : Int) (r : List Int × List (Int × Int)) : Prop where
  len : r.1.length = many.toNat
  room : ∀ v ∈ r.1, 1 ≤ v ∧ v ≤ 3
  line : ∀ p ∈ r.2, (0 ≤ p.1 ∧ p.1 < many) ∧ 0 ≤ p.2 ∧ p.2 < many
  few : r.2.length ≤ 36
theorem sp_rails {many : Int} (h : 2 ≤ many ∧ many ≤ 6) : Sp (Nt.law_rails many) (Rl many) := by
  unfold Nt.law_rails idW eqEW
  simp only [W.pure_bind, W.bind_assoc, W.map_eq]
  refine sp_bind (sp_draw (by omega)) fun way _ => ?_
  refine sp_bind (sp_rng1 (by omega)) fun xs hx => ?_
  have hxs : ∀ x ∈ xs, 0 ≤ x ∧ x < many := by
    subst hx; intro x hx; have := mem_rng.mp hx; omega
  have hxl : xs.length = many.toNat := by rw [hx, len_rng]
  refine sp_bind (P := fun s => (∀ p ∈ s, (0 ≤ p.1 ∧ p.1 < many) ∧ 0 ≤ p.2 ∧ p.2 < many) ∧ s.length ≤ 36) (sp_forN (I := fun rest s => (∀ x ∈ rest, 0 ≤ x ∧ x < many) ∧ (∀ p ∈ s, (0 ≤ p.1 ∧ p.1 < many) ∧ 0 ≤ p.2 ∧ p.2 < many) ∧ s.length + 6 * rest.length ≤ 36) ?body (fun s ⟨_, a, b⟩ => ⟨a, by simpa using b⟩) xs [] ⟨hxs, by simp, by simp; omega⟩) ?more
  case body =>
    intro i rest s ⟨a1, a2, a3⟩
    have hi := a1 i List.mem_cons_self
    simp only [List.length_cons] at a3
    refine sp_bind (P := fun _ => True) (sp_ite (fun _ => sp_mono (sp_comF (Nat.le_of_ble_eq_true rfl)) fun _ _ => trivial) fun _ => sp_need (by omega) (sp_pure trivial)) fun near _ => ?_
    refine sp_bind (P := fun _ => True) (sp_ite (fun _ => sp_bind (sp_rng1 (by omega)) fun ys hy => sp_mono (sp_comF (by rw [hy, len_rng]; omega)) fun _ _ => trivial) fun _ => sp_pure trivial) fun near1 _ => ?_
    refine sp_bind (P := fun _ => True) (sp_ite (fun _ => sp_pure trivial) fun _ => sp_pure trivial) fun near2 _ => ?_
    refine sp_bind (sp_rng1 (by omega)) fun ys hy => ?_
    have hys : ∀ x ∈ ys, 0 ≤ x ∧ x < many := by
      subst hy; intro x hx; have := mem_rng.mp hx; omega
    have hyl : ys.length = many.toNat := by rw [hy, len_rng]
    refine sp_bind (sp_comR (R := fun p => (0 ≤ p.1 ∧ p.1 < many) ∧ 0 ≤ p.2 ∧ p.2 < many) (by omega) ?each) ?rest
    case each =>
      intro j hj
      have hj' := hys j hj
      refine sp_bind (P := fun _ => True) (sp_ite (fun _ => sp_ite (fun _ => sp_pure trivial) fun _ => sp_bind (sp_draw (by split <;> omega)) fun _ _ => sp_pure trivial) fun _ => sp_pure trivial) fun b _ => sp_ite (fun _ => sp_pure fun y e => ?_) fun _ => sp_pure fun y e => nomatch e
      cases e; exact ⟨hi, hj'⟩
    case rest =>
      intro zs ⟨z1, z2⟩
      refine sp_need (by omega) (sp_pure ⟨fun x hx => a1 x (List.mem_cons_of_mem _ hx), fun p hp => ?_, ?_⟩)
      · rcases List.mem_append.mp hp with e | e
        · exact a2 p e
        · exact z2 p e
      · simp only [List.length_append]; omega
  case more =>
    intro s ⟨s1, s2⟩
    refine sp_bind (sp_rng1 (by omega)) fun ys hy => ?_
    have hyl : ys.length = many.toNat := by rw [hy, len_rng]
    refine sp_bind (sp_comA (Rx := fun _ v => 1 ≤ v ∧ v ≤ 3) (p := fun _ => Nt.law_pick [1, 1, 1, 2, 2, 3]) (by omega) fun x _ => sp_mono (sp_pick (by simp) (by simp)) fun a ha => by
      simp only [List.mem_cons, List.not_mem_nil, or_false] at ha
      omega) fun rs hrs => sp_pure ⟨by rw [← hyl]; exact hrs.len, fun v hv => by
      obtain ⟨_, _, h⟩ := hrs.mem v hv; exact h, s1, s2⟩
end K26

set_option Elab.async false
set_option linter.all false
set_option maxRecDepth 100000
set_option maxHeartbeats 4000000
set_option autoImplicit false
namespace K26
open PySem PySem.Spec PyProof.Rows L2 Fx Fx.Urn
theorem cutL_mem {τ : Type} {xs : List τ} {l u : Option Int} {x : τ} (h : x ∈ cutL xs l u) : x ∈ xs := List.mem_of_mem_drop (List.mem_of_mem_take h)
theorem cutL_len {τ : Type} {xs : List τ} {u : Int} (h : 0 ≤ u) : (cutL xs none (some u)).length ≤ u.toNat := by
  unfold cutL
  rw [List.length_take]
  refine Nat.le_trans (Nat.min_le_left _ _) ?_
  unfold HT.sIx
  simp only
  split <;> omega
def gS : Nat → Nat
  | 0 => 3
  | d + 1 => 3 + 3 * gS d
theorem gS_mono {a b : Nat} (h : a ≤ b) : gS a ≤ gS b := by
  induction h with
  | refl => exact Nat.le_refl _
  | step _ ih => exact Nat.le_trans ih (by rw [gS]; omega)
structure Pt (n : Int) (spot : Int) (d : Nat) (w : Wy) : Prop where
  at_ : w.at = spot
  kids : ∀ c ∈ w.on, 0 ≤ c.at ∧ c.at < n
  tame : w.p.tame
  sz : w.p.sz ≤ gS d
  le : w.le (d + 1)
theorem sz_kids : ∀ {ts : List Wy} {m : Nat}, (∀ t ∈ ts, t.p.sz ≤ m) → PV.szs (ts.map eW) ≤ ts.length * m
  | [], m, h => Nat.zero_le _
  | t :: ts, m, h => by
    have a := sz_kids (ts := ts) fun t ht => h t (List.mem_cons_of_mem _ ht)
    have b := h t List.mem_cons_self
    rw [List.map_cons, PV.szs, List.length_cons, Nat.add_mul]
    show t.p.sz + _ ≤ _
    omega
theorem sp_path {n : Int} (hn : n ≤ 6) {rails : List Int × List (Int × Int)} (hr : Rl n rails) : ∀ (k : Nat) (spot deep : Int) (inner : List Int), 0 ≤ deep → deep.toNat < k → deep ≤ 20 → (0 ≤ spot ∧ spot < n) → Sp (Nt.law_path k rails spot deep inner) (Pt n spot deep.toNat) := by
  intro k
  induction k with
  | zero => intro _ _ _ _ h; exact absurd h (Nat.not_lt_zero _)
  | succ k ih =>
    intro spot deep inner h0 hk h20 hs
    simp only [Nt.law_path, W.pure_bind, W.bind_assoc, W.map_eq, idW]
    have hx := hr.few
    refine sp_bind (sp_comF (by omega)) fun menu hm => ?_
    have hml : menu.length ≤ 36 := by rw [hm]; exact Nat.le_trans (List.length_filterMap_le _ _) hx
    have hmm : ∀ j ∈ menu, 0 ≤ j ∧ j < n := by
      intro j hj
      rw [hm] at hj
      obtain ⟨p, hp, e⟩ := List.mem_filterMap.mp hj
      split at e
      · cases e; exact (hr.line p hp).2
      · cases e
    refine sp_ite (fun _ => ?_) fun hc => ?_
    · obtain ⟨w, hw⟩ := wyO_some (i := spot) (ts := []) (by simp)
      refine sp_bind (sp_ofO (P := fun a => a = w) hw rfl) fun a ha => sp_pure ?_
      subst ha
      obtain ⟨e1, e2⟩ := wyO_on hw
      refine ⟨e1, by rw [e2]; simp, ?_, ?_, Wy.le_mono (wyO_le (n := 0) hw (by simp)) (by omega)⟩
      · show (eW a).tame
        rw [wyO_eq hw]
        exact ⟨(⟨hs.1, by omega⟩ : 0 ≤ spot ∧ spot < 100), trivial, trivial⟩
      · show (eW a).sz ≤ _
        rw [wyO_eq hw]
        exact Nat.le_trans (show 1 + (1 + ((1 + 0) + 0)) ≤ gS 0 from by decide) (gS_mono (Nat.zero_le _))
    · have hd : deep ≠ 0 := by
        intro e; simp [e] at hc
      refine sp_bind (sp_mixed (by omega)) fun ys hy => ?_
      refine sp_bind (sp_pick (by simp) (by simp)) fun u hu => ?_
      simp only [List.mem_cons, List.not_mem_nil, or_false] at hu
      refine sp_bind (P := fun zs => zs.length ≤ 3 ∧ ∀ z ∈ zs, 0 ≤ z ∧ z < n) (sp_pure ?_) fun zs ⟨z1, z2⟩ => ?_
      · refine ⟨?_, fun z hz => ?_⟩
        · rw [(srt_perm _).length_eq]
          exact Nat.le_trans (cutL_len (by omega)) (by omega)
        · have := cutL_mem ((srt_perm _).mem_iff.mp hz)
          exact hmm z (hy.mem_iff.mp this)
      · have hl := hr.len
        refine sp_bind (sp_lrng (by omega)) fun every _ => ?_
        refine sp_bind (sp_comA (p := fun own => W.bind (Nt.law_draw deep) fun a => Nt.law_path k rails own a every) (Rx := fun own w => ∃ d', d' < deep.toNat ∧ Pt n own d' w) (by omega) fun own ho => ?_) fun ws hw => ?_
        · refine sp_bind (sp_draw (by omega)) fun a ha => ?_
          exact sp_mono (ih own a every ha.1 (by omega) (by omega) (z2 own ho)) fun w hw => ⟨a.toNat, by omega, hw⟩
        · have hwl := hw.len
          have hwm : ∀ w ∈ ws, w.le deep.toNat ∧ w.p.tame ∧ w.p.sz ≤ gS (deep.toNat - 1) ∧ 0 ≤ w.at ∧ w.at < n := by
            intro w hm
            obtain ⟨own, ho, d', hd', p⟩ := hw.mem w hm
            refine ⟨Wy.le_mono p.le (by omega), p.tame, Nat.le_trans p.sz (gS_mono (by omega)), ?_⟩
            rw [p.at_]; exact z2 own ho
          obtain ⟨w, hw'⟩ := wyO_some (i := spot) (ts := ws) fun t ht => Wy.le_mono (hwm t ht).1 (by omega)
          refine sp_ofO hw' ?_
          obtain ⟨e1, e2⟩ := wyO_on hw'
          refine ⟨e1, by rw [e2]; exact fun c hc => (hwm c hc).2.2.2, ?_, ?_, wyO_le hw' fun t ht => (hwm t ht).1⟩
          · show (eW w).tame
            rw [wyO_eq hw']
            refine ⟨(⟨hs.1, by omega⟩ : 0 ≤ spot ∧ spot < 100), PV.tames_iff.mpr fun p hp => ?_, trivial⟩
            obtain ⟨t, ht, rfl⟩ := List.mem_map.mp hp
            exact (hwm t ht).2.1
          · show (eW w).sz ≤ _
            rw [wyO_eq hw']
            have a := sz_kids (ts := ws) fun t ht => (hwm t ht).2.2.1
            have b : ws.length * gS (deep.toNat - 1) ≤ 3 * gS (deep.toNat - 1) := Nat.mul_le_mul_right _ (by omega)
            obtain ⟨d, hd'⟩ : ∃ d, deep.toNat = d + 1 := ⟨deep.toNat - 1, by omega⟩
            rw [hd'] at a b ⊢
            show 1 + (1 + ((1 + PV.szs (ws.map eW)) + 0)) ≤ 3 + 3 * gS d
            simp only [Nat.add_sub_cancel] at a b
            omega
end K26

set_option Elab.async false
set_option linter.all false
set_option maxRecDepth 100000
set_option maxHeartbeats 4000000
set_option autoImplicit false
namespace K26
open PySem PySem.Spec PyProof.Rows L2 Fx Fx.Urn
theorem atI_last {τ : Type} {xs : List τ} (h : xs ≠ []) : ∃ a, atI xs (-1) = some a ∧ a ∈ xs := by
  have hl := List.length_pos_iff.mpr h
  have hk : xs.length - 1 < xs.length := by omega
  refine ⟨xs[xs.length - 1], ?_, List.getElem_mem hk⟩
  unfold atI ixN
  rw [if_neg (by decide), if_pos (by omega)]
  show xs[((-1 : Int) + (xs.length : Nat)).toNat]? = _
  rw [show ((-1 : Int) + (xs.length : Nat)).toNat = xs.length - 1 by omega]
  exact List.getElem?_eq_getElem hk
theorem cutL_le {τ : Type} {xs : List τ} {l u : Option Int} : (cutL xs l u).length ≤ xs.length := by
  unfold cutL
  rw [List.length_take, List.length_drop]
  omega
theorem sp_loop {n : Int} (hn : n ≤ 6) {rails : List Int × List (Int × Int)} (hr : Rl n rails) {some_ : List Int} (h1 : some_.length ≤ 6) (h2 : ∀ x ∈ some_, 0 ≤ x ∧ x < n) : Sp (Nt.law_loop rails some_) (fun r => r.length ≤ 7 ∧ ∀ x ∈ r, 0 ≤ x ∧ x < n) := by
  unfold Nt.law_loop
  simp only [W.pure_bind, W.bind_assoc, W.map_eq, eqEW]
  have hx := hr.few
  refine sp_bind (P := fun s => (some_ ≠ [] → s ≠ []) ∧ (∀ x ∈ s, 0 ≤ x ∧ x < n) ∧ s.length ≤ 1) (sp_ite (fun hc => ?_) fun hc => sp_pure ⟨fun h => absurd h (by simpa using hc), by simp, by simp⟩) fun seen ⟨a1, a2, a3⟩ => ?_
  · have hne : some_ ≠ [] := by simpa using hc
    exact sp_bind (sp_pick hne (by omega)) fun a ha => sp_pure ⟨fun _ => by simp, by simpa using h2 a ha, by simp⟩
  · refine sp_lp (Pl := fun c => match c with
      | .next _ => True
      | .ret r => r.length ≤ 7 ∧ ∀ x ∈ r, 0 ≤ x ∧ x < n) (sp_bind (sp_rng1 (by omega)) fun xs hxs => ?_) (fun s _ => sp_pure ⟨by decide, by simp⟩) fun r h => h
    have hxl : xs.length = some_.length := by rw [hxs, len_rng]; omega
    refine sp_forC (I := fun rest s => (rest ≠ [] → s ≠ []) ∧ (∀ x ∈ s, 0 ≤ x ∧ x < n) ∧ s.length + rest.length ≤ 7) ?body (fun s _ => trivial) xs seen ⟨fun h => a1 (by intro e; rw [e] at hxl; exact h (List.eq_nil_of_length_eq_zero (by simpa using hxl))), a2, by omega⟩
    case body =>
      intro turn rest s ⟨b1, b2, b3⟩
      have hs := b1 (by simp)
      simp only [List.length_cons] at b3
      refine sp_bind (sp_comR (R := fun x => 0 ≤ x ∧ x < n) (by omega) ?each) ?rest
      case each =>
        intro p hp
        obtain ⟨a, e1, e2⟩ := atI_last hs
        refine sp_bind (P := fun _ => True) (sp_ofO e1 trivial) fun _ _ => sp_bind (P := fun _ => True) (sp_ite (fun _ => sp_pure trivial) fun _ => sp_pure trivial) fun b _ => sp_ite (fun _ => sp_pure fun y e => ?_) fun _ => sp_pure fun y e => nomatch e
        cases e; exact (hr.line p hp).2
      case rest =>
        intro menu ⟨m1, m2⟩
        refine sp_ite (fun _ => sp_pure ⟨by decide, by simp⟩) fun hc => ?_
        have hne : menu ≠ [] := by simpa using hc
        refine sp_bind (sp_pick hne (by omega)) fun own ho => ?_
        refine sp_ite (fun hc => ?_) fun _ => ?_
        · have hm : own ∈ s := by simpa using hc
          refine sp_need hm (sp_pure ⟨Nat.le_trans cutL_le (by omega), fun x hx => b2 x (cutL_mem hx)⟩)
        · refine sp_need (by omega) (sp_pure ⟨fun _ => by simp, fun x hx => ?_, by simp; omega⟩)
          rcases List.mem_append.mp hx with e | e
          · exact b2 x e
          · rw [List.mem_singleton.mp e]; exact m2 own ho
structure Wk (n : Int) (w : Wy) : Prop where
  at_ : 0 ≤ w.at ∧ w.at < n
  kids : ∀ c ∈ w.on, 0 ≤ c.at ∧ c.at < n
  tame : w.p.tame
  sz : w.p.sz ≤ 120
theorem Pt.wk {n spot : Int} {d : Nat} {w : Wy} (h : Pt n spot d w) (hd : d ≤ 3) (hs : 0 ≤ spot ∧ spot < n) : Wk n w := ⟨by rw [h.at_]; exact hs, h.kids, h.tame, Nat.le_trans h.sz (Nat.le_trans (gS_mono hd) (by decide))⟩
abbrev Al (n : Int) (s : List (Option Wy)) : Prop := ∀ w, some w ∈ s → Wk n w
theorem sp_inner {n : Int} (hn : n ≤ 6) {rails : List Int × List (Int × Int)} (hr : Rl n rails) {pair : Int × Int} (hp1 : 0 ≤ pair.1 ∧ pair.1 < n) (hp2 : 1 ≤ pair.2 ∧ pair.2 ≤ 3) (inner every : List Int) {s : List (Option Wy)} {m : Nat} (hm : m ≤ 100) (hs : s.length ≤ m) (ha : Al n s) :
    Sp (W.map (fun s1 => s1) (W.bind (W.bind (W.bind (W.bind (W.pure (!decide (inner = ([] : List Int)))) fun y_98 => W.ite y_98 (W.bind (Nt.law_draw ((12 : Int))) fun y_96 => (W.bind (W.pure (0 : Int)) fun y_97 => (fun i j => ltW j i) y_96 y_97)) (W.pure false)) fun y_99 => W.ite y_99 (W.pure pair.2) (Nt.law_draw ((pair.2 + (1 : Int))))) rng1) fun xs_109 => W.forN (fun (turn : Int) (s1 : (List (Option Wy))) => (W.bind (W.bind (W.pure (!decide (inner = ([] : List Int)))) fun y_102 => W.ite y_102 (W.bind (Nt.law_draw ((20 : Int))) fun y_100 => (W.bind (W.pure (0 : Int)) fun y_101 => (fun i j => ltW j i) y_100 y_101)) (W.pure false)) fun b_108 => W.ite b_108 (W.map (fun found => found) (W.bind (W.map some (W.bind (W.bind (Nt.law_draw ((3 : Int))) fun y_103 => addW (1 : Int) y_103) fun a_104 => Nt.law_path 8 (rails) (pair.1) (a_104) (inner))) fun y_105 => appW s1 y_105)) (W.map (fun found1 => found1) (W.bind (W.map some (W.bind (Nt.law_draw ((4 : Int))) fun a_106 => Nt.law_path 8 (rails) (pair.1) (a_106) (every))) fun y_107 => appW s1 y_107)))) xs_109 s)) (fun s' => s'.length ≤ m + 3 ∧ Al n s') := by
  simp only [W.pure_bind, W.bind_assoc, W.map_eq, eqEW, ltW, addW]
  refine sp_bind (P := fun b => True) (sp_ite (fun _ => sp_bind (sp_draw (by omega)) fun _ _ => sp_pure trivial) fun _ => sp_pure trivial) fun b _ => ?_
  refine sp_bind (P := fun j => 0 ≤ j ∧ j ≤ 3) (sp_ite (fun _ => sp_pure (by omega)) fun _ => sp_mono (sp_draw (by omega)) fun r hr => by omega) fun j hj => ?_
  refine sp_bind (sp_rng1 (by omega)) fun xs hx => ?_
  have hxl : xs.length ≤ 3 := by rw [hx, len_rng]; omega
  refine sp_bind (P := fun s' => s'.length ≤ m + 3 ∧ Al n s') (sp_forN (I := fun rest s' => s'.length + rest.length ≤ m + 3 ∧ Al n s') ?body (fun s' h => ⟨by simpa using h.1, h.2⟩) xs s ⟨by omega, ha⟩) fun s' h => sp_pure h
  case body =>
    intro turn rest s' ⟨b1, b2⟩
    simp only [List.length_cons] at b1
    have app : ∀ w, Wk n w → (s' ++ [some w]).length + rest.length ≤ m + 3 ∧ Al n (s' ++ [some w]) := fun w hw => by
      refine ⟨by simp; omega, fun w' h => ?_⟩
      rcases List.mem_append.mp h with e | e
      · exact b2 w' e
      · rw [List.mem_singleton] at e
        cases e; exact hw
    refine sp_bind (P := fun _ => True) (sp_ite (fun _ => sp_bind (sp_draw (by omega)) fun _ _ => sp_pure trivial) fun _ => sp_pure trivial) fun b _ => sp_ite (fun _ => ?_) fun _ => ?_
    · refine sp_bind (sp_draw (by omega)) fun d hd => ?_
      refine sp_bind (sp_path hn hr 8 pair.1 (1 + d) inner (by omega) (by omega) (by omega) hp1) fun w hw => ?_
      exact sp_need (by omega) (sp_pure (app w (hw.wk (by omega) hp1)))
    · refine sp_bind (sp_draw (by omega)) fun d hd => ?_
      refine sp_bind (sp_path hn hr 8 pair.1 d every (by omega) (by omega) (by omega) hp1) fun w hw => ?_
      exact sp_need (by omega) (sp_pure (app w (hw.wk (by omega) hp1)))
end K26

set_option Elab.async false
set_option linter.all false
set_option maxRecDepth 100000
set_option maxHeartbeats 4000000
set_option autoImplicit false
namespace K26
open PySem PySem.Spec PyProof.Rows L2 Fx Fx.Urn
theorem enum_mem {τ : Type} : ∀ {xs : List τ} {k : Nat} {p : Int × τ}, p ∈ enumFrom k xs → (k : Int) ≤ p.1 ∧ p.1 < k + xs.length ∧ p.2 ∈ xs
  | [], k, p, h => by simp [enumFrom] at h
  | x :: xs, k, p, h => by
    have h' : p = ((k : Int), x) ∨ p ∈ enumFrom (k + 1) xs := by simpa [enumFrom] using h
    rcases h' with e | e
    · subst e
      exact ⟨Int.le_refl _, by simp; omega, List.mem_cons_self⟩
    · obtain ⟨a, b, c⟩ := enum_mem e
      simp only [List.length_cons]
      exact ⟨by omega, by omega, List.mem_cons_of_mem _ c⟩
theorem enum_len {τ : Type} : ∀ {xs : List τ} {k : Nat}, (enumFrom k xs).length = xs.length
  | [], k => rfl
  | x :: xs, k => by
    show (enumFrom (k + 1) xs).length + 1 = _
    rw [enum_len]; rfl
theorem sp_scene {n : Int} (h2 : 2 ≤ n) (hn : n ≤ 6) {rails : List Int × List (Int × Int)} (hr : Rl n rails) : Sp (Nt.law_scene rails) (fun s => s.length ≤ 20 ∧ Al n s) := by
  have hl := hr.len
  unfold Nt.law_scene
  refine sp_bind (P := fun a => a = (rngP 0 n.toNat, [])) (sp_bind (P := fun y => y = rngP 0 n.toNat) (sp_mono (show Sp (lrngW _) _ from sp_lrng (by omega)) fun a h => by rw [h, hl]; rfl) fun y hy => sp_pure (by rw [hy])) fun a he => ?_
  have hev : ∀ x ∈ a.1, 0 ≤ x ∧ x < n := by
    rw [he]; intro x hx; have := mem_rng.mp hx; omega
  have hel : a.1.length ≤ 6 := by rw [he]; show (rngP 0 n.toNat).length ≤ 6; rw [len_rng]; omega
  have ha2 : a.2 = [] := by rw [he]
  have pos : ∀ many : Int, 1 ≤ many ∧ many < 100 → Sp (W.bind (W.bind (Nt.law_draw many) fun y => W.bind (W.pure (0 : Int)) fun z => (fun i j => ltW j i) y z) W.pure) (fun _ : Bool => True) := fun many h => sp_bind (P := fun _ => True) (sp_bind (sp_draw (by omega)) fun _ _ => sp_pure trivial) fun _ _ => sp_pure trivial
  refine sp_bind (P := fun r => r.length ≤ 7 ∧ ∀ x ∈ r, 0 ≤ x ∧ x < n) (sp_bind (P := fun _ => True) (pos 5 (by omega)) fun b _ => sp_ite (fun _ => sp_loop hn hr hel hev) fun _ => sp_pure ⟨by decide, by simp⟩) fun one _ => ?_
  refine sp_bind (P := fun r => r.length ≤ 7 ∧ ∀ x ∈ r, 0 ≤ x ∧ x < n) (sp_bind (P := fun r => r.length ≤ 6 ∧ ∀ x ∈ r, 0 ≤ x ∧ x < n) (sp_mono (show Sp (W.comF _ a.1) _ from sp_comF (by omega)) fun r h => ⟨by rw [h]; exact Nat.le_trans (List.length_filterMap_le _ _) hel, fun x hx => ?_⟩) fun r ⟨r1, r2⟩ => sp_loop hn hr r1 r2) fun other _ => ?_
  · rw [h] at hx
    obtain ⟨y, hy, e⟩ := List.mem_filterMap.mp hx
    split at e
    · cases e; exact hev x hy
    · cases e
  refine sp_bind (P := fun s => s.length ≤ 18 ∧ Al n s) (show Sp (W.forN _ (enumFrom 0 rails.1) a.2) _ from sp_forN (I := fun rest s => s.length + 3 * rest.length ≤ 18 ∧ Al n s ∧ ∀ p ∈ rest, (0 ≤ p.1 ∧ p.1 < n) ∧ 1 ≤ p.2 ∧ p.2 ≤ 3) ?body (fun s h => ⟨by simpa using h.1, h.2.1⟩) _ _ ?init) ?more
  case init =>
    refine ⟨by rw [ha2, enum_len]; simp only [List.length_nil]; omega, by rw [ha2]; simp [Al], fun p hp => ?_⟩
    obtain ⟨a1, a2, a3⟩ := enum_mem hp
    exact ⟨by omega, hr.room _ a3⟩
  case body =>
    intro pair rest s ⟨b1, b2, b3⟩
    obtain ⟨p1, p2⟩ := b3 pair List.mem_cons_self
    simp only [List.length_cons] at b1
    have inner := fun inner : List Int => sp_inner hn hr p1 p2 inner a.1 (s := s) (m := s.length) (by omega) (Nat.le_refl _) b2
    have fin : ∀ s' : List (Option Wy), (s'.length ≤ s.length + 3 ∧ Al n s') → s'.length + 3 * rest.length ≤ 18 ∧ Al n s' ∧ ∀ p ∈ rest, (0 ≤ p.1 ∧ p.1 < n) ∧ 1 ≤ p.2 ∧ p.2 ≤ 3 := fun s' h => ⟨by omega, h.2, fun p hp => b3 p (List.mem_cons_of_mem _ hp)⟩
    refine sp_bind (P := fun _ => True) (sp_pure trivial) fun _ _ => sp_ite (fun _ => sp_mono (inner one) fin) fun _ => ?_
    refine sp_bind (P := fun _ => True) (sp_pure trivial) fun _ _ => sp_ite (fun _ => sp_mono (inner other) fin) fun _ => ?_
    refine sp_bind (P := fun _ => True) (sp_bind (sp_draw (by omega)) fun _ _ => sp_pure trivial) fun _ _ => sp_ite (fun _ => ?_) fun _ => ?_
    · exact sp_bind (P := fun _ => True) (show Sp (catW one other) _ from sp_need (by omega) (sp_pure trivial)) fun i _ => sp_mono (inner i) fin
    · exact sp_bind (P := fun _ => True) (sp_pure trivial) fun i _ => sp_mono (inner i) fin
  case more =>
    intro s ⟨s1, s2⟩
    refine sp_bind (P := fun r => r.length ≤ 20 ∧ Al n r) (sp_bind (P := fun r => r.length ≤ 20 ∧ Al n r) (sp_bind (P := fun r => r.length ≤ 2 ∧ ∀ x ∈ r, x = none) ?nones fun r ⟨r1, r2⟩ => ?cat) fun r ⟨r1, r2⟩ => sp_mono (sp_mixed (by omega)) fun z hz => ⟨by rw [hz.length_eq]; exact r1, fun w hw => r2 w (hz.mem_iff.mp hw)⟩) fun r h => sp_pure h
    case nones =>
      refine sp_bind (P := fun a => a = [none]) (sp_pure rfl) fun a ha => sp_bind (sp_draw (by omega)) fun k hk => ?_
      subst ha
      refine sp_need ⟨hk.1, by omega, by simp; omega⟩ (sp_pure ⟨?_, fun x hx => ?_⟩)
      · simp; omega
      · obtain ⟨l, h1, h2⟩ := List.mem_flatten.mp hx
        rw [(List.mem_replicate.mp h1).2] at h2
        simpa using h2
    case cat =>
      refine sp_need (by omega) (sp_pure ⟨by simp; omega, fun w hw => ?_⟩)
      rcases List.mem_append.mp hw with e | e
      · exact s2 w e
      · exact absurd (r2 _ e) (by simp)
end K26

set_option Elab.async false
set_option linter.all false
set_option maxRecDepth 100000
set_option maxHeartbeats 4000000
set_option autoImplicit false
namespace K26
open PySem PySem.Spec PyProof.Rows L2 Fx Fx.Urn
/-! ### what the stations want -/
def at1 (i : Int) : Option Wy → Option Wy
  | none => none
  | some w => if w.at = i then some w else none
def here (scene : List (Option Wy)) (i : Int) : List Wy := scene.filterMap (at1 i)
def ats (w : Wy) : List Int := w.on.map Wy.at
def wsh (scene : List (Option Wy)) (i : Int) : List Int := (here scene i).flatMap ats
def atEnd (scene : List (Option Wy)) (i : Int) : Prop := ([] : List Wy) ∈ (here scene i).map Wy.on
theorem dec_iff : ∀ (q : Prop) (i : Decidable q), (@decide q i = true) ↔ q := fun q i => ⟨fun h => @of_decide_eq_true q i h, fun h => @decide_eq_true q i h⟩
def opn (scene : List (Option Wy)) (i room : Int) : Prop := ((here scene i).length : Int) < room ∨ atEnd scene i
structure Tab (n : Int) (rooms : List Int) (scene : List (Option Wy)) (T : List (Option (List Int))) : Prop where
  len : T.length = n.toNat
  ent : ∀ (i : Nat) (room : Int), rooms[i]? = some room → ∃ o, T[i]? = some o ∧ (o = none ↔ opn scene i room) ∧ ∀ l, o = some l → ∀ x, x ∈ l ↔ x ∈ wsh scene i
theorem wsh_rng {n : Int} {scene : List (Option Wy)} (ha : Al n scene) {i x : Int} (h : x ∈ wsh scene i) : 0 ≤ x ∧ x < n := by
  obtain ⟨w, h1, h2⟩ := List.mem_flatMap.mp h
  obtain ⟨c, h3, rfl⟩ := List.mem_map.mp h2
  obtain ⟨o, h4, h5⟩ := List.mem_filterMap.mp h1
  cases o with
  | none => cases h5
  | some w' =>
    simp only [at1] at h5
    split at h5
    · cases h5; exact (ha _ h4).kids c h3
    · cases h5
theorem here_app (pre : List (Option Wy)) (o : Option Wy) (i : Int) : here (pre ++ [o]) i = here pre i ++ (at1 i o).toList := by
  unfold here
  rw [List.filterMap_append]
  cases h : at1 i o <;> simp [h]
theorem ixN_in {n : Nat} {k : Int} (h : 0 ≤ k ∧ k < n) : ixN n k = some k.toNat := by
  unfold ixN
  rw [if_pos h.1, if_pos (by omega)]
/-! the law's own -/
theorem nodup_len : ∀ (n : Nat) (F : List Int), F.Nodup → (∀ v ∈ F, 0 ≤ v ∧ v < n) → F.length ≤ n
  | 0, F, _, h => by
    cases F with
    | nil => simp
    | cons a F => have := h a List.mem_cons_self; omega
  | n + 1, F, nd, h => by
    have h1 : (F.erase (n : Int)).length ≤ n := nodup_len n _ (nd.erase _) fun v hv => by
      have := h v (List.mem_of_mem_erase hv)
      have ne : v ≠ (n : Int) := (nd.mem_erase_iff.mp hv).1
      omega
    by_cases hm : (n : Int) ∈ F
    · rw [List.length_erase_of_mem hm] at h1
      have : 0 < F.length := List.length_pos_of_mem hm
      omega
    · rw [List.erase_of_not_mem hm] at h1; omega
theorem asc_nodup {l : List Int} (h : l.Pairwise (fun a b => ltI a b = true)) : l.Nodup := h.imp fun {a b} q e => by
  subst e; simp [ltI] at q
theorem szs_len : ∀ ts : List PV, ts.length ≤ PV.szs ts
  | [] => Nat.le_refl _
  | t :: ts => by
    have := szs_len ts
    have := t.sz_pos
    rw [PV.szs, List.length_cons]; omega
theorem on_len {n : Int} {w : Wy} (h : Wk n w) : w.on.length ≤ 120 := by
  have h1 := h.sz
  have h2 : (eW w).sz = w.p.sz := rfl
  rw [eW_eq] at h2
  have h3 : (PV.tup [.int w.at, .tup (w.on.map eW)]).sz = 1 + (1 + ((1 + PV.szs (w.on.map eW)) + 0)) := rfl
  have h4 := szs_len (w.on.map eW)
  rw [List.length_map] at h4
  omega
theorem here_mem {scene : List (Option Wy)} {i : Int} {w : Wy} (h : w ∈ here scene i) : some w ∈ scene ∧ w.at = i := by
  obtain ⟨o, h4, h5⟩ := List.mem_filterMap.mp h
  cases o with
  | none => cases h5
  | some w' =>
    simp only [at1] at h5
    split at h5
    · rename_i e; cases h5; exact ⟨h4, e⟩
    · cases h5
theorem flat_len {n : Int} : ∀ {l : List Wy}, (∀ w ∈ l, Wk n w) → (l.flatMap ats).length ≤ 120 * l.length
  | [], _ => Nat.zero_le _
  | w :: l, h => by
    have a := flat_len (l := l) fun w hw => h w (List.mem_cons_of_mem _ hw)
    have b := on_len (h w List.mem_cons_self)
    rw [List.flatMap_cons, List.length_append, List.length_cons]
    have : (ats w).length = w.on.length := by simp [ats]
    omega
def Ent (scene : List (Option Wy)) (i room : Int) (o : Option (List Int)) : Prop := (o = none ↔ opn scene i room) ∧ ∀ l, o = some l → ∀ x, x ∈ l ↔ x ∈ wsh scene i
theorem sp_needs {n : Int} (h2 : 2 ≤ n) (hn : n ≤ 6) {rails : List Int × List (Int × Int)} (hr : Rl n rails) {scene : List (Option Wy)} (hl : scene.length ≤ 20) (ha : Al n scene) : Sp (Nt.law_needs rails scene) (fun T => Tab n rails.1 scene T ∧ ∀ l, some l ∈ T → l.length ≤ 6) := by
  have hrl := hr.len
  unfold Nt.law_needs
  simp only [W.pure_bind, W.bind_assoc, W.map_eq, inW]
  refine sp_bind (sp_forN (I := fun rest s => ∃ dn todo, rails.1 = dn ++ todo ∧ rest = enumFrom dn.length todo ∧ s.length = dn.length ∧ (∀ l, some l ∈ s → l.length ≤ 6) ∧ ∀ (i : Nat) (room : Int), dn[i]? = some room → ∃ o, s[i]? = some o ∧ Ent scene i room o) (Pz := fun T => Tab n rails.1 scene T ∧ ∀ l, some l ∈ T → l.length ≤ 6) ?body ?fin _ _ ⟨[], rails.1, rfl, rfl, rfl, by simp, fun i room h => by simp at h⟩) fun s h => sp_pure h
  case fin =>
    rintro s ⟨dn, todo, e1, e2, e3, e6, e4⟩
    have : todo = [] := by
      cases todo with
      | nil => rfl
      | cons x xs => simp [enumFrom] at e2
    subst this
    rw [List.append_nil] at e1
    exact ⟨⟨by rw [e3, ← e1, hrl], fun i room h => e4 i room (by rw [← e1]; exact h)⟩, e6⟩
  case body =>
    rintro pair rest s ⟨dn, todo, e1, e2, e3, e6, e4⟩
    cases todo with
    | nil => simp [enumFrom] at e2
    | cons room todo =>
      have e2' : pair :: rest = ((dn.length : Int), room) :: enumFrom (dn.length + 1) todo := by simpa [enumFrom] using e2
      injection e2' with q1 q2
      subst q1
      refine sp_bind (P := fun hs => hs = here scene dn.length) (sp_mono (sp_comF (by omega)) fun a h => ?_) fun hs hh => ?_
      · rw [h]
        refine congrArg (fun f => scene.filterMap f) (funext fun o => ?_)
        cases o with
        | none => rfl
        | some w => simp [at1]
      · subst hh
        have hwk : ∀ w ∈ here scene dn.length, Wk n w := fun w hw => ha w (here_mem hw).1
        have hhl : (here scene dn.length).length ≤ 20 := Nat.le_trans (List.length_filterMap_le _ _) hl
        have hfl := flat_len hwk
        refine sp_bind (P := fun s1 => s1 = wsh scene dn.length) (sp_forN (I := fun rest s1 => ∃ d, d ++ rest = here scene dn.length ∧ s1 = d.flatMap ats) ?wbody (fun s1 ⟨d, d1, d2⟩ => by rw [List.append_nil] at d1; rw [d2, d1]; rfl) _ _ ⟨[], rfl, rfl⟩) fun wished hw => ?_
        case wbody =>
          rintro w rest s1 ⟨d, d1, d2⟩
          have hd : ∀ x ∈ d ++ w :: rest, Wk n x := by rw [d1]; exact hwk
          have k1 := flat_len (l := d) fun x hx => hd x (by simp [hx])
          have k2 := on_len (hd w (by simp))
          have k3 : d.length ≤ 20 := by
            have := congrArg List.length d1
            simp at this; omega
          refine sp_bind (sp_comF (by omega)) fun ys hy => ?_
          have hy' : ys = ats w := by rw [hy]; unfold ats; induction w.on <;> simp_all
          subst hy'
          have k4 : (ats w).length = w.on.length := by simp [ats]
          refine sp_need (by rw [d2]; omega) (sp_pure ⟨d ++ [w], by rw [List.append_assoc]; exact d1, by rw [d2]; simp⟩)
        · subst hw
          refine sp_bind (P := fun b => (b = true ↔ opn scene dn.length room)) (sp_ite (fun hc => sp_pure ⟨fun _ => .inl (by simpa using hc), fun _ => rfl⟩) fun hc => sp_bind (sp_comF (by omega)) fun ys hy => sp_pure ?_) fun b hb => ?_
          · have hy' : ys = (here scene dn.length).map Wy.on := by rw [hy]; induction here scene dn.length <;> simp_all
            subst hy'
            have hc' := of_decide_eq_false hc
            exact (dec_iff _ _).trans ⟨fun h => Or.inr h, fun h => h.resolve_left hc'⟩
          · have hwr : ∀ x ∈ wsh scene dn.length, 0 ≤ x ∧ x < n := fun x hx => wsh_rng ha hx
            have hsl : (srtU ltI (wsh scene dn.length)).length ≤ n.toNat := nodup_len _ _ (asc_nodup (srtU_pw sto_int _)) fun v hv => by
              have := hwr v ((srtU_mem v _).mp hv); omega
            refine sp_bind (P := fun o => Ent scene dn.length room o ∧ ∀ l, o = some l → l.length ≤ 6) (sp_ite (fun hc => sp_pure ⟨⟨⟨fun _ => hb.mp hc, fun _ => rfl⟩, (fun l e => nomatch e)⟩, (fun l e => nomatch e)⟩) fun hc => ?_) fun o ⟨ho, ho6⟩ => ?_
            · have hno : ¬ opn scene dn.length room := fun h => by rw [hb.mpr h] at hc; cases hc
              refine sp_bind (P := fun l => l = srtU ltI (wsh scene dn.length)) (sp_need (by show (wsh scene dn.length).length ≤ 4000; unfold wsh; omega) (sp_pure rfl)) fun l hl1 => ?_
              subst hl1
              refine sp_bind (P := fun l => l = srtU ltI (srtU ltI (wsh scene dn.length))) (sp_need (by omega) (sp_pure rfl)) fun l hl1 => sp_pure ?_
              subst hl1
              refine ⟨⟨⟨(fun e => nomatch e), fun h => absurd h hno⟩, fun l e x => by cases e; rw [srtU_mem, srtU_mem]⟩, fun l e => ?_⟩
              cases e
              have : (srtU ltI (srtU ltI (wsh scene dn.length))).length ≤ n.toNat := nodup_len _ _ (asc_nodup (srtU_pw sto_int _)) fun v hv => by
                have := hwr v ((srtU_mem v _).mp ((srtU_mem v _).mp hv)); omega
              omega
            · have hdl : dn.length ≤ 6 := by
                have := congrArg List.length e1
                simp at this; omega
              refine sp_need (by omega) (sp_pure ⟨dn ++ [room], todo, by rw [List.append_assoc]; exact e1, by rw [q2]; simp, by simp [e3], fun l hl' => ?_, fun i r h => ?_⟩)
              · rcases List.mem_append.mp hl' with q | q
                · exact e6 l q
                · exact ho6 l (List.mem_singleton.mp q).symm
              by_cases hi : i < dn.length
              · rw [List.getElem?_append_left hi] at h
                obtain ⟨o', o1, o2⟩ := e4 i r h
                exact ⟨o', by rw [List.getElem?_append_left (by omega)]; exact o1, o2⟩
              · rw [List.getElem?_append_right (by omega)] at h
                have hi' : i - dn.length = 0 := by
                  by_cases z : i - dn.length = 0
                  · exact z
                  · rw [List.getElem?_eq_none (by simp; omega)] at h; cases h
                have hi2 : i = dn.length := by omega
                subst hi2
                simp at h
                subst h
                exact ⟨o, by rw [← e3]; simp, ho⟩
end K26

set_option Elab.async false
set_option linter.all false
set_option maxRecDepth 100000
set_option maxHeartbeats 4000000
set_option autoImplicit false
namespace K26
open PySem PySem.Spec PyProof.Rows L2 Fx Fx.Urn
structure Pre (n : Int) (pre : List (Option Wy)) (s : List Int × List (Option (List Int))) : Prop where
  lc : s.1.length = n.toNat
  lf : s.2.length = n.toNat
  cnt : ∀ i : Nat, i < n.toNat → s.1[i]? = some ((here pre i).length : Int)
  fnd : ∀ i : Nat, i < n.toNat → ∃ o, s.2[i]? = some o ∧ (o = none ↔ atEnd pre i) ∧ ∀ l, o = some l → (∀ x, x ∈ l ↔ x ∈ wsh pre i) ∧ l.length ≤ 120 * (here pre i).length
theorem here_other {pre : List (Option Wy)} {w : Wy} {i : Int} (h : w.at ≠ i) : here (pre ++ [some w]) i = here pre i := by
  rw [here_app]; simp [at1, h]
theorem here_same {pre : List (Option Wy)} {w : Wy} : here (pre ++ [some w]) w.at = here pre w.at ++ [w] := by
  rw [here_app]; simp [at1]
theorem atEnd_same {pre : List (Option Wy)} {w : Wy} : atEnd (pre ++ [some w]) w.at ↔ atEnd pre w.at ∨ w.on = [] := by
  unfold atEnd
  rw [here_same, List.map_append, List.mem_append]
  simp only [List.map_cons, List.map_nil, List.mem_singleton]
  exact ⟨fun h => h.imp id Eq.symm, fun h => h.imp id Eq.symm⟩
theorem wsh_same {pre : List (Option Wy)} {w : Wy} : wsh (pre ++ [some w]) w.at = wsh pre w.at ++ ats w := by
  unfold wsh
  rw [here_same, List.flatMap_append]; simp
theorem Pre.other {n : Int} {pre : List (Option Wy)} {s : List Int × List (Option (List Int))} (h : Pre n pre s) {w : Wy} (hw : 0 ≤ w.at ∧ w.at < n) {o' : Option (List Int)} (h1 : o' = none ↔ atEnd (pre ++ [some w]) w.at)
    (h2 : ∀ l, o' = some l → (∀ x, x ∈ l ↔ x ∈ wsh (pre ++ [some w]) w.at) ∧ l.length ≤ 120 * (here (pre ++ [some w]) w.at).length) : Pre n (pre ++ [some w]) (s.1.set w.at.toNat (((here pre w.at).length : Int) + 1), s.2.set w.at.toNat o') := by
  have hk : ((w.at.toNat : Nat) : Int) = w.at := by omega
  refine ⟨by simp [h.lc], by simp [h.lf], fun i hi => ?_, fun i hi => ?_⟩
  · by_cases e : w.at.toNat = i
    · subst e
      rw [List.getElem?_set_self (by rw [h.lc]; exact hi), hk, here_same]; simp
    · rw [List.getElem?_set_ne e, here_other (by omega)]
      exact h.cnt i hi
  · by_cases e : w.at.toNat = i
    · subst e
      refine ⟨o', List.getElem?_set_self (by rw [h.lf]; exact hi), ?_⟩
      rw [hk]; exact ⟨h1, h2⟩
    · obtain ⟨o, a, b, c⟩ := h.fnd i hi
      have ho := here_other (pre := pre) (w := w) (i := (i : Int)) (by omega)
      refine ⟨o, (List.getElem?_set_ne e).trans a, ?_⟩
      unfold atEnd wsh at *
      rw [ho]; exact ⟨b, c⟩
theorem sp_wanted {n : Int} (h2 : 2 ≤ n) (hn : n ≤ 6) {rails : List Int × List (Int × Int)} (hr : Rl n rails) {scene : List (Option Wy)} (hl : scene.length ≤ 20) (ha : Al n scene) : Sp (Nt.wanted rails scene) (fun T => Tab n rails.1 scene T) := by
  have hrl := hr.len
  unfold Nt.wanted
  simp only [W.pure_bind, W.bind_assoc, W.map_eq, ltW]
  refine sp_bind (P := fun c => c = List.replicate n.toNat 0) (sp_need (by simp; omega) (sp_pure ?_)) fun c hc => ?_
  · rw [hrl]
    simp only [Int.toNat_natCast]
    induction n.toNat <;> simp_all [List.replicate_succ]
  refine sp_bind (sp_comO (f := fun _ => some (some [])) (by omega) fun x _ => sp_pure rfl) fun f hf => ?_
  have hf' : f = List.replicate n.toNat (some []) := by
    rw [hf, ← hrl]
    induction rails.1 <;> simp_all [List.replicate_succ]
  have h0 : Pre n [] (c, f) := by
    subst hc hf'
    refine ⟨by simp, by simp, fun i hi => by simp [hi, here], fun i hi => ⟨some [], by simp [hi], ⟨(fun e => nomatch e), fun e => by simp [atEnd, here] at e⟩, fun l e => by cases e; simp [wsh, here]⟩⟩
  refine sp_bind (P := Pre n scene) (sp_forN (I := fun rest s => ∃ pre, pre ++ rest = scene ∧ Pre n pre s) ?body (fun s ⟨pre, e, h⟩ => by rw [List.append_nil] at e; rw [← e]; exact h) _ _ ⟨[], rfl, h0⟩) ?more
  case body =>
    rintro way rest s ⟨pre, e, h⟩
    cases way with
    | none =>
      refine sp_pure ⟨pre ++ [none], by rw [List.append_assoc]; exact e, ?_⟩
      have hh : ∀ i, here (pre ++ [none]) i = here pre i := fun i => by rw [here_app]; simp [at1]
      refine ⟨h.lc, h.lf, fun i hi => by rw [hh]; exact h.cnt i hi, fun i hi => ?_⟩
      have := h.fnd i hi
      unfold atEnd wsh at *
      rw [hh]; exact this
    | some w =>
      have hw := (ha w (by rw [← e]; simp))
      have hat := hw.at_
      have hk : ((w.at.toNat : Nat) : Int) = w.at := by omega
      have hkn : w.at.toNat < n.toNat := by omega
      have ix1 : ixN s.1.length w.at = some w.at.toNat := ixN_in (by rw [h.lc]; omega)
      have ix2 : ixN s.2.length w.at = some w.at.toNat := ixN_in (by rw [h.lf]; omega)
      have hpl : pre.length ≤ 20 := by
        have := congrArg List.length e
        simp at this; omega
      have hhl : (here pre w.at).length ≤ 20 := Nat.le_trans (List.length_filterMap_le _ _) hpl
      have hc := h.cnt w.at.toNat hkn
      rw [hk] at hc
      obtain ⟨o, o1, o2, o3⟩ := h.fnd w.at.toNat hkn
      rw [hk] at o2 o3
      show Sp (W.bind (augW _ s.1 w.at 1) _) _
      refine sp_bind (P := fun c => c = s.1.set w.at.toNat (((here pre w.at).length : Int) + 1)) (sp_ofO (by unfold ixMap; rw [ix1, Option.bind_some, hc]; rfl) rfl) fun c1 hc1 => ?_
      subst hc1
      have next : ∀ f', Pre n (pre ++ [some w]) (s.1.set w.at.toNat (((here pre w.at).length : Int) + 1), f') → ∃ pre', pre' ++ rest = scene ∧ Pre n pre' (s.1.set w.at.toNat (((here pre w.at).length : Int) + 1), f') := fun f' h => ⟨_, by rw [List.append_assoc]; exact e, h⟩
      refine sp_ite (fun hon => ?_) fun hon => ?_
      · have hon' : w.on = [] := of_decide_eq_true hon
        refine sp_bind (P := fun f => f = s.2.set w.at.toNat none) (sp_ofO (by rw [ix2]; rfl) rfl) fun f1 hf1 => sp_pure ?_
        subst hf1
        exact next _ (h.other hat ⟨fun _ => atEnd_same.mpr (.inr hon'), fun _ => rfl⟩ fun l e => nomatch e)
      · have hon' : w.on ≠ [] := of_decide_eq_false hon
        refine sp_bind (P := fun z => z = o) (sp_ofO (a := o) (by unfold atI; rw [ix2]; exact o1) rfl) fun z hz => ?_
        subst hz
        cases z with
        | none =>
          refine sp_pure (next _ ?_)
          have : s.2 = s.2.set w.at.toNat none := (set_same o1).symm
          rw [this]
          exact h.other hat ⟨fun _ => atEnd_same.mpr (.inl (o2.mp rfl)), fun _ => rfl⟩ fun l e => nomatch e
        | some l =>
          obtain ⟨l1, l2⟩ := o3 l rfl
          have hne : ¬ atEnd pre w.at := fun q => nomatch o2.mpr q
          refine sp_ite (fun _ => ?_) (fun hh => nomatch hh)
          refine sp_bind (sp_comF (by have := on_len hw; omega)) fun ys hy => ?_
          have hy' : ys = ats w := by rw [hy]; unfold ats; induction w.on <;> simp_all
          subst hy'
          have hal : (ats w).length ≤ 120 := by have := on_len hw; simpa [ats] using this
          refine sp_bind (P := fun f => f = s.2.set w.at.toNat (some (l ++ ats w))) ?_ fun f1 hf1 => sp_pure ?_
          · refine sp_bind (P := fun z => z = some l) (sp_ofO (a := some l) (by unfold atI; rw [ix2]; exact o1) rfl) fun z hz => ?_
            subst hz
            refine sp_bind (P := fun z => z = l) (sp_ofO rfl rfl) fun z hz => ?_
            subst hz
            exact sp_need (by omega) (sp_ofO (by rw [ix2]; rfl) rfl)
          · subst hf1
            refine next _ (h.other hat ⟨(fun e => nomatch e), fun q => ?_⟩ fun l' e => ?_)
            · rcases atEnd_same.mp q with q | q
              · exact absurd q hne
              · exact absurd q hon'
            · cases e
              refine ⟨fun x => ?_, ?_⟩
              · rw [wsh_same, List.mem_append, List.mem_append, l1]
              · rw [here_same]; simp; omega
  case more =>
    intro s hs
    refine sp_bind (P := fun T => Tab n rails.1 scene T) (sp_forN (I := fun rest f => ∃ dn todo, rails.1 = dn ++ todo ∧ rest = enumFrom dn.length todo ∧ f.length = n.toNat ∧ (∀ (i : Nat) (room : Int), dn[i]? = some room → ∃ o, f[i]? = some o ∧ Ent scene i room o) ∧ ∀ i : Nat, dn.length ≤ i → f[i]? = s.2[i]?) ?body2 ?fin2 _ _ ⟨[], rails.1, rfl, rfl, hs.lf, fun i room h => by simp at h, fun i _ => rfl⟩) fun T h => sp_pure h
    case fin2 =>
      rintro f ⟨dn, todo, e1, e2, e3, e4, e5⟩
      have : todo = [] := by
        cases todo with
        | nil => rfl
        | cons x xs => simp [enumFrom] at e2
      subst this
      rw [List.append_nil] at e1
      exact ⟨e3, fun i room h => e4 i room (by rw [← e1]; exact h)⟩
    case body2 =>
      rintro pair rest f ⟨dn, todo, e1, e2, e3, e4, e5⟩
      cases todo with
      | nil => simp [enumFrom] at e2
      | cons room todo =>
        have e2' : pair :: rest = ((dn.length : Int), room) :: enumFrom (dn.length + 1) todo := by simpa [enumFrom] using e2
        injection e2' with q1 q2
        subst q1
        have hdl : dn.length < n.toNat := by
          have := congrArg List.length e1
          simp at this; omega
        have ix1 : ixN s.1.length (dn.length : Int) = some dn.length := by rw [ixN_in (by rw [hs.lc]; omega)]; simp
        have ix2 : ixN f.length (dn.length : Int) = some dn.length := by rw [ixN_in (by rw [e3]; omega)]; simp
        obtain ⟨o, o1, o2, o3⟩ := hs.fnd dn.length hdl
        refine sp_bind (P := fun c => c = ((here scene dn.length).length : Int)) (sp_ofO (by unfold atI; rw [ix1]; exact hs.cnt _ hdl) rfl) fun cn hcn => ?_
        subst hcn
        have step : ∀ f' : List (Option (List Int)), f'.length = n.toNat → (∀ i, i ≠ dn.length → f'[i]? = f[i]?) → (∃ o, f'[dn.length]? = some o ∧ Ent scene dn.length room o) → ∃ dn' todo', rails.1 = dn' ++ todo' ∧ rest = enumFrom dn'.length todo' ∧ f'.length = n.toNat ∧ (∀ (i : Nat) (room : Int), dn'[i]? = some room → ∃ o, f'[i]? = some o ∧ Ent scene i room o) ∧ ∀ i : Nat, dn'.length ≤ i → f'[i]? = s.2[i]? := by
          intro f' l1 l2 l3
          refine ⟨dn ++ [room], todo, by rw [List.append_assoc]; exact e1, by rw [q2]; simp, l1, fun i r h => ?_, fun i hi => ?_⟩
          · by_cases hi : i < dn.length
            · rw [List.getElem?_append_left hi] at h
              rw [l2 i (by omega)]
              exact e4 i r h
            · rw [List.getElem?_append_right (by omega)] at h
              have hi' : i - dn.length = 0 := by
                by_cases z : i - dn.length = 0
                · exact z
                · rw [List.getElem?_eq_none (by simp; omega)] at h; cases h
              have hi2 : i = dn.length := by omega
              subst hi2
              simp at h
              subst h
              exact l3
          · simp only [List.length_append, List.length_cons, List.length_nil] at hi
            rw [l2 i (by omega)]
            exact e5 i (by omega)
        refine sp_ite (fun hc => ?_) fun hc => sp_pure ?_
        · have hc' : ((here scene dn.length).length : Int) < room := of_decide_eq_true hc
          refine sp_bind (P := fun g => g = f.set dn.length none) (sp_ofO (by rw [ix2]; rfl) rfl) fun g hg => sp_pure ?_
          subst hg
          exact step _ (by simp [e3]) (fun i hi => List.getElem?_set_ne (Ne.symm hi)) ⟨none, List.getElem?_set_self (by omega), ⟨fun _ => .inl hc', fun _ => rfl⟩, fun l e => nomatch e⟩
        · have hc' : ¬ ((here scene dn.length).length : Int) < room := of_decide_eq_false hc
          refine step f e3 (fun _ _ => rfl) ⟨o, (e5 _ (Nat.le_refl _)).trans o1, ⟨fun h => .inr (o2.mp h), fun h => o2.mpr (h.resolve_left hc')⟩, fun l e x => (o3 l e).1 x⟩
end K26

set_option Elab.async false
set_option linter.all false
set_option maxRecDepth 100000
set_option maxHeartbeats 4000000
set_option autoImplicit false
namespace K26
open PySem PySem.Spec PyProof.Rows L2 Fx Fx.Urn
/-- who is drawn in -/
inductive Rt (T : List (Option (List Int))) (s : Int) : Int → Prop
  | refl : Rt T s s
  | step {b c : Int} {l : List Int} (h : Rt T s b) (e : atI T b = some (some l)) (m : c ∈ l) : Rt T s c
abbrev Asc (l : List Int) : Prop := l.Pairwise (fun a b => ltI a b = true)
theorem asc_srt {l : List Int} (h : l.Nodup) : Asc (srt ltI l) := by
  have a := srt_pw sto_int l
  have b : (srt ltI l).Nodup := (srt_perm l).nodup_iff.mpr h
  refine (a.and b).imp fun {x y} ⟨p, q⟩ => ?_
  simp [ltI] at *
  omega
structure Rng (n : Int) (T : List (Option (List Int))) : Prop where
  len : T.length = n.toNat
  rng : ∀ l, some l ∈ T → ∀ x ∈ l, 0 ≤ x ∧ x < n
theorem atI_in {τ : Type} {xs : List τ} {k : Int} (h : 0 ≤ k ∧ k < xs.length) : ∃ a, atI xs k = some a ∧ xs[k.toNat]? = some a ∧ a ∈ xs := by
  obtain ⟨a, e, m⟩ := atI_mem h
  refine ⟨a, e, ?_, m⟩
  unfold atI at e
  rw [ixN_in h] at e
  exact e
structure Cl (n : Int) (T : List (Option (List Int))) (s : Int) (p : List Int × Int) : Prop where
  nd : p.1.Nodup
  rng : ∀ x ∈ p.1, (0 ≤ x ∧ x < n) ∧ Rt T s x
  one : s ∈ p.1
  at_ : 0 ≤ p.2 ∧ p.2 ≤ p.1.length
  dn : ∀ k b, k < p.2.toNat → p.1[k]? = some b → ∃ l, atI T b = some (some l) ∧ ∀ c ∈ l, c ∈ p.1
def Told (T : List (Option (List Int))) (s : Int) (r : List Int) : Prop :=
  (r = [] ∧ ∃ t, Rt T s t ∧ atI T t = some none) ∨ ((∀ t, Rt T s t → ∃ l, atI T t = some (some l)) ∧ Asc r ∧ ∀ t, t ∈ r ↔ Rt T s t)
theorem sp_closed {n : Int} (h2 : 2 ≤ n) (hn : n ≤ 6) {T : List (Option (List Int))} (hT : Rng n T) {s : Int} (hs : 0 ≤ s ∧ s < n) : Sp (Nt.closed_from T s) (Told T s) := by
  unfold Nt.closed_from
  simp only [W.pure_bind, W.bind_assoc, W.map_eq, idW, sortW]
  refine sp_lp (Pl := fun c => match c with
    | .next p => Cl n T s p ∧ ¬ p.2 < p.1.length
    | .ret r => r = [] ∧ ∃ t, Rt T s t ∧ atI T t = some none) (sp_whileC (I := Cl n T s) (μ := fun p => (n + 1 - p.2).toNat) (fun p hp => sp_pure ?_) ⟨by simp, by simpa using ⟨hs, Rt.refl⟩, by simp, by simp, fun k b h => by simp at h⟩) (fun p ⟨hp, hc⟩ => sp_pure (.inr ?_)) fun r h => .inl h
  · have hln : p.1.length ≤ n.toNat := nodup_len _ _ hp.nd fun v hv => by have := (hp.rng v hv).1; omega
    have hat := hp.at_
    by_cases c : p.2 < p.1.length
    · simp only [c, decide_true, if_true]
      obtain ⟨b, b1, b2, b3⟩ := atI_in (xs := p.1) (k := p.2) ⟨hat.1, c⟩
      obtain ⟨br, bt⟩ := hp.rng b b3
      obtain ⟨o, o1, o2, o3⟩ := atI_in (xs := T) (k := b) (by rw [hT.len]; omega)
      refine sp_bind (sp_ofO (P := fun a => a = b) b1 rfl) fun a ha => ?_
      subst ha
      refine sp_bind (sp_ofO (P := fun a => a = o) o1 rfl) fun a ha => ?_
      subst ha
      cases a with
      | none => exact sp_ite (fun _ => sp_pure ⟨rfl, _, bt, o1⟩) (fun h => nomatch h)
      | some l =>
        refine sp_ite (fun h => nomatch h) fun _ => ?_
        refine sp_bind (sp_ofO (P := fun a' => a' = a) b1 rfl) fun a' ha => ?_
        subst ha
        refine sp_bind (sp_ofO (P := fun a => a = some l) o1 rfl) fun z hz => ?_
        subst hz
        refine sp_bind (sp_ofO (P := fun z => z = l) rfl rfl) fun z hz => ?_
        subst hz
        refine sp_bind (P := fun r => ∃ e, r = p.1 ++ e ∧ r.Nodup ∧ (∀ x ∈ r, (0 ≤ x ∧ x < n) ∧ Rt T s x) ∧ ∀ c ∈ z, c ∈ r) (sp_forN (I := fun rest r => (∃ e, r = p.1 ++ e ∧ r.Nodup ∧ (∀ x ∈ r, (0 ≤ x ∧ x < n) ∧ Rt T s x)) ∧ (∀ x ∈ rest, x ∈ z) ∧ ∀ c ∈ z, c ∈ rest ∨ c ∈ r) ?body ?fin z p.1 ⟨⟨[], by simp, hp.nd, hp.rng⟩, fun x h => h, fun c h => .inl h⟩) ?more
        case fin =>
          rintro r ⟨⟨e, e1, e2, e3⟩, _, e4⟩
          exact ⟨e, e1, e2, e3, fun c hc => (e4 c hc).resolve_left (by simp)⟩
        case body =>
          rintro x rest r ⟨⟨e, e1, e2, e3⟩, e5, e4⟩
          have hx := e5 x List.mem_cons_self
          refine sp_ite (fun hc => ?_) fun hc => sp_pure ⟨⟨e, e1, e2, e3⟩, fun y hy => e5 y (List.mem_cons_of_mem _ hy), fun c hc' => ?_⟩
          · have hni : x ∉ r := by simpa using hc
            have hrl : r.length ≤ n.toNat := nodup_len _ _ e2 fun v hv => by have := (e3 v hv).1; omega
            refine sp_need (by omega) (sp_pure ⟨⟨e ++ [x], by rw [e1, List.append_assoc], ?_, ?_⟩, fun y hy => e5 y (List.mem_cons_of_mem _ hy), fun c hc' => ?_⟩)
            · rw [List.nodup_append]
              exact ⟨e2, by simp, fun a ha b hb => by rw [List.mem_singleton.mp hb]; intro q; subst q; exact hni ha⟩
            · intro y hy
              rcases List.mem_append.mp hy with q | q
              · exact e3 y q
              · rw [List.mem_singleton.mp q]; exact ⟨hT.rng _ o3 x hx, bt.step o1 hx⟩
            · rcases e4 c hc' with q | q
              · rcases List.mem_cons.mp q with q | q
                · right; rw [q]; simp
                · exact .inl q
              · right; simp [q]
          · have hin : x ∈ r := by simpa using hc
            rcases e4 c hc' with q | q
            · rcases List.mem_cons.mp q with q | q
              · right; rw [q]; exact hin
              · exact .inl q
            · exact .inr q
        case more =>
          rintro r ⟨e, e1, e2, e3, e4⟩
          have hlr : r.length = p.1.length + e.length := by rw [e1]; simp
          refine sp_pure ⟨⟨e2, e3, by rw [e1]; simp [hp.one], ⟨by show 0 ≤ p.2 + 1; omega, by show p.2 + 1 ≤ (r.length : Int); omega⟩, fun k b hk hb => ?_⟩, by show (n + 1 - (p.2 + 1)).toNat < (n + 1 - p.2).toNat; omega⟩
          have hk' : k < p.2.toNat + 1 := by
            have : (p.2 + 1).toNat = p.2.toNat + 1 := by omega
            exact this ▸ hk
          have hb' : p.1[k]? = some b := by
            have hb0 : r[k]? = some b := hb
            rw [e1, List.getElem?_append_left (by omega)] at hb0
            exact hb0
          by_cases hk2 : k < p.2.toNat
          · obtain ⟨l', l1, l2⟩ := hp.dn k b hk2 hb'
            exact ⟨l', l1, fun c hc => by show c ∈ r; rw [e1]; exact List.mem_append_left _ (l2 c hc)⟩
          · have : k = p.2.toNat := by omega
            subst this
            rw [b2] at hb'
            cases hb'
            exact ⟨z, o1, e4⟩
    · simp only [c, decide_false, Bool.false_eq_true, if_false]
      exact ⟨hp, not_false⟩
  · have hat := hp.at_
    have full : ∀ b ∈ p.1, ∃ l, atI T b = some (some l) ∧ ∀ c ∈ l, c ∈ p.1 := by
      intro b hb
      obtain ⟨k, hk⟩ := List.mem_iff_getElem?.mp hb
      have := (List.getElem?_eq_some_iff.mp hk).1
      exact hp.dn k b (by omega) hk
    have all : ∀ t, Rt T s t → t ∈ p.1 := by
      intro t h
      induction h with
      | refl => exact hp.one
      | step h e m ih =>
        obtain ⟨l', l1, l2⟩ := full _ ih
        rw [e] at l1
        cases l1
        exact l2 _ m
    refine ⟨fun t h => ?_, asc_srt hp.nd, fun t => ⟨fun h => (hp.rng t ((srt_perm _).mem_iff.mp h)).2, fun h => (srt_perm _).mem_iff.mpr (all t h)⟩⟩
    obtain ⟨l, l1, _⟩ := full t (all t h)
    exact ⟨l, l1⟩
end K26

set_option Elab.async false
set_option linter.all false
set_option maxRecDepth 100000
set_option maxHeartbeats 4000000
set_option autoImplicit false
namespace K26
open PySem PySem.Spec PyProof.Rows L2 Fx Fx.Urn
/-- they want each other alone -/
def Shut (T : List (Option (List Int))) (l : List Int) : Prop := ∀ x ∈ l, ∃ w, atI T x = some (some w) ∧ ∀ y ∈ w, y ∈ l
structure Lot (n : Int) (T : List (Option (List Int))) (l : List Int) : Prop where
  ne : l ≠ []
  asc : Asc l
  rng : ∀ x ∈ l, 0 ≤ x ∧ x < n
  shut : Shut T l
theorem asc_rng (a : Int) (n : Nat) : Asc (rngP a n) := by
  unfold rngP Asc
  rw [List.pairwise_map]
  exact List.pairwise_lt_range.imp fun h => by simp [ltI]; omega
def sub (n : Nat) (m : Nat) : List Int := (rngP 0 n).filter fun x => m.testBit x.toNat
theorem sub_asc (n m : Nat) : Asc (sub n m) := (asc_rng 0 n).filter _
theorem sub_mem {n m : Nat} {x : Int} : x ∈ sub n m ↔ (0 ≤ x ∧ x < n) ∧ m.testBit x.toNat = true := by
  unfold sub
  rw [List.mem_filter, mem_rng]
  constructor
  · rintro ⟨a, b⟩; exact ⟨⟨a.1, by omega⟩, b⟩
  · rintro ⟨a, b⟩; exact ⟨⟨a.1, by omega⟩, b⟩
theorem sub_inj {n m m' : Nat} (h : m < 2 ^ n) (h' : m' < 2 ^ n) (e : sub n m = sub n m') : m = m' := by
  refine Nat.eq_of_testBit_eq fun i => ?_
  by_cases hi : i < n
  · have a := sub_mem (n := n) (m := m) (x := (i : Int))
    have b := sub_mem (n := n) (m := m') (x := (i : Int))
    rw [e, b] at a
    simp only [Int.toNat_natCast] at a
    have : m'.testBit i = true ↔ m.testBit i = true := ⟨fun q => (a.mp ⟨⟨by omega, by omega⟩, q⟩).2, fun q => (a.mpr ⟨⟨by omega, by omega⟩, q⟩).2⟩
    cases h1 : m.testBit i <;> cases h2 : m'.testBit i <;> simp_all
  · have hp : 2 ^ n ≤ 2 ^ i := Nat.pow_le_pow_right (by decide) (by omega)
    rw [Nat.testBit_lt_two_pow (by omega), Nat.testBit_lt_two_pow (by omega)]
theorem bits (f : Nat → Bool) : ∀ n : Nat, ∃ m < 2 ^ n, ∀ i < n, m.testBit i = f i
  | 0 => ⟨0, by decide, fun i h => absurd h (Nat.not_lt_zero _)⟩
  | n + 1 => by
    obtain ⟨m, h1, h2⟩ := bits f n
    have hp : 2 ^ (n + 1) = 2 ^ n + 2 ^ n := by rw [Nat.pow_succ]; omega
    cases hf : f n with
    | false =>
      refine ⟨m, by omega, fun i hi => ?_⟩
      by_cases e : i = n
      · subst e; rw [hf, Nat.testBit_lt_two_pow h1]
      · exact h2 i (by omega)
    | true =>
      refine ⟨2 ^ n + m, by omega, fun i hi => ?_⟩
      by_cases e : i = n
      · subst e; rw [hf, Nat.testBit_two_pow_add_eq, Nat.testBit_lt_two_pow h1]; rfl
      · rw [Nat.testBit_two_pow_add_gt (by omega)]; exact h2 i (by omega)
theorem sub_onto {n : Nat} {l : List Int} (ha : Asc l) (hr : ∀ x ∈ l, 0 ≤ x ∧ x < n) : ∃ m < 2 ^ n, sub n m = l := by
  obtain ⟨m, h1, h2⟩ := bits (fun i => decide ((i : Int) ∈ l)) n
  refine ⟨m, h1, asc_ext sto_int (sub_asc n m) ha fun z => ?_⟩
  rw [sub_mem]
  constructor
  · rintro ⟨a, b⟩
    rw [h2 z.toNat (by omega)] at b
    have := of_decide_eq_true b
    rwa [show ((z.toNat : Nat) : Int) = z by omega] at this
  · intro hz
    have := hr z hz
    refine ⟨this, ?_⟩
    rw [h2 z.toNat (by omega)]
    refine decide_eq_true ?_
    rwa [show ((z.toNat : Nat) : Int) = z by omega]
theorem bit_at (m : Nat) (x : Int) (hx : 0 ≤ x) : (decide (Builtin.bitAnd ((m : Int) / 2 ^ x.toNat) 1 = 1)) = m.testBit x.toNat := by
  rw [Nat.testBit_eq_decide_div_mod_eq]
  have e : ((m : Int) / 2 ^ x.toNat) = ((m / 2 ^ x.toNat : Nat) : Int) := by
    rw [Int.natCast_ediv]; simp
  rw [e]
  generalize m / 2 ^ x.toNat = q
  unfold Builtin.bitAnd
  simp only [decide_eq_true (show (0 : Int) ≤ (q : Int) by omega), decide_eq_true (show (0 : Int) ≤ 1 by decide), Int.toNat_natCast, show (1 : Int).toNat = 1 from rfl, Nat.and_one_is_mod]
  exact decide_eq_decide.mpr (by omega)
theorem filterMap_filter {τ : Type} (q : τ → Bool) (xs : List τ) : xs.filterMap (fun x => if q x = true then some x else none) = xs.filter q := by
  induction xs with
  | nil => rfl
  | cons x xs ih =>
    rw [List.filterMap_cons, List.filter_cons, ih]
    cases q x <;> rfl
open Classical in
theorem sp_lots {n : Int} (h2 : 2 ≤ n) (hn : n ≤ 6) {rails : List Int × List (Int × Int)} (hr : Rl n rails) {scene : List (Option Wy)} (hl : scene.length ≤ 20) (ha : Al n scene) : Sp (Nt.law_lots rails scene) (fun L => ∃ T, Tab n rails.1 scene T ∧ L.length ≤ 64 ∧ L.Nodup ∧ ∀ l, l ∈ L ↔ Lot n T l) := by
  unfold Nt.law_lots
  simp only [W.pure_bind, W.bind_assoc, W.map_eq, eqEW, atW, andW, neLW, eqLW]
  refine sp_bind (sp_needs h2 hn hr hl ha) fun T ⟨hT, hT6⟩ => ?_
  have hTl := hT.len
  have hp64 : 2 ^ n.toNat ≤ 64 := by
    have : 2 ^ n.toNat ≤ 2 ^ 6 := Nat.pow_le_pow_right (by decide) (by omega)
    simpa using this
  have hp1 : 1 ≤ 2 ^ n.toNat := Nat.one_le_two_pow
  have hpI : (2 : Int) ^ n.toNat = ((2 ^ n.toNat : Nat) : Int) := (Int.natCast_pow 2 n.toNat).symm
  refine sp_bind (P := fun z => z = ((2 ^ n.toNat : Nat) : Int)) (sp_need ⟨by omega, by omega, by decide⟩ (sp_pure (by rw [hTl, Int.one_mul, ← hpI, Int.toNat_natCast]))) fun z hz => ?_
  subst hz
  refine sp_bind (P := fun xs => xs = rngP 1 (2 ^ n.toNat - 1)) (sp_need (by omega) (sp_pure (by congr 1; omega))) fun xs hxs => ?_
  refine sp_bind (P := fun s => s = ((List.range (2 ^ n.toNat - 1)).map fun k => sub n.toNat (k + 1)).filter fun l => decide (Shut T l)) (sp_forN (I := fun rest s => ∃ dn todo : List Nat, dn ++ todo = List.range (2 ^ n.toNat - 1) ∧ rest = todo.map (fun k => ((k + 1 : Nat) : Int)) ∧ s = (dn.map fun k => sub n.toNat (k + 1)).filter fun l => decide (Shut T l)) ?body ?fin _ _ ⟨[], List.range (2 ^ n.toNat - 1), rfl, by rw [hxs]; unfold rngP; refine List.map_congr_left fun k _ => by omega, rfl⟩) ?more
  case fin =>
    rintro s ⟨dn, todo, e1, e2, e3⟩
    have : todo = [] := by simpa using e2.symm
    subst this
    rw [List.append_nil] at e1
    rw [e3, e1]
  case body =>
    rintro mask rest s ⟨dn, todo, e1, e2, e3⟩
    cases todo with
    | nil => simp at e2
    | cons k todo =>
      rw [List.map_cons] at e2
      injection e2 with q1 q2
      subst q1
      have next : ∀ s', s' = ((dn ++ [k]).map fun k => sub n.toNat (k + 1)).filter (fun l => decide (Shut T l)) → ∃ dn' todo' : List Nat, dn' ++ todo' = List.range (2 ^ n.toNat - 1) ∧ rest = todo'.map (fun k => ((k + 1 : Nat) : Int)) ∧ s' = (dn'.map fun k => sub n.toNat (k + 1)).filter fun l => decide (Shut T l) := fun s' h => ⟨dn ++ [k], todo, by rw [List.append_assoc]; exact e1, q2, h⟩
      have hdl : dn.length ≤ 64 := by
        have := congrArg List.length e1
        simp at this; omega
      have hsl : s.length ≤ 64 := by
        rw [e3]
        refine Nat.le_trans (List.length_filter_le _ _) ?_
        simpa using hdl
      refine sp_bind (sp_rng1 (by omega)) fun ys hy => ?_
      have hy' : ys = rngP 0 n.toNat := by rw [hy, hTl, Int.toNat_natCast]
      subst hy'
      refine sp_bind (P := fun l => l = sub n.toNat (k + 1)) (sp_mono (sp_comO (f := fun x => if Nat.testBit (k + 1) x.toNat = true then some x else none) (by rw [len_rng]; omega) fun x hx => ?_) fun l h => by rw [h, filterMap_filter]; rfl) fun spots hsp => ?_
      · have hx' := mem_rng.mp hx
        refine sp_need (by omega) (show Sp (W.ite (decide (Builtin.bitAnd (((k + 1 : Nat) : Int) / 2 ^ x.toNat) 1 = 1)) (W.pure (some x)) (W.pure none)) _ from ?_)
        rw [bit_at (k + 1) x hx'.1]
        cases Nat.testBit (k + 1) x.toNat with
        | true => exact sp_pure rfl
        | false => exact sp_pure rfl
      · have hspr : ∀ x ∈ spots, 0 ≤ x ∧ x < n := by
          intro x hx
          rw [hsp] at hx
          have := (sub_mem.mp hx).1
          omega
        have hspl : spots.length ≤ 6 := by
          rw [hsp]
          refine Nat.le_trans (List.length_filter_le _ _) ?_
          rw [len_rng]; omega
        have hat : ∀ x ∈ spots, ∃ o, atI T x = some o := fun x hx => by
          obtain ⟨o, h, _⟩ := atI_in (xs := T) (k := x) (by have := hspr x hx; omega)
          exact ⟨o, h⟩
        refine sp_bind (sp_comA (p := fun x => W.ofO (atI T x)) (Rx := fun x o => atI T x = some o) (by omega) fun x hx => ?_) fun os hos => ?_
        · obtain ⟨o, h⟩ := hat x hx
          exact sp_ofO h h
        · refine sp_ite (fun hc => ?_) fun hc => sp_pure (next _ ?_)
          · have hno : none ∉ os := by simpa using hc
            have hw : ∀ x ∈ spots, ∃ w, atI T x = some (some w) := by
              have key : ∀ {xs : List Int} {os : List (Option (List Int))}, All2 (fun x o => atI T x = some o) xs os → none ∉ os → ∀ x ∈ xs, ∃ w, atI T x = some (some w) := by
                intro xs os h
                induction h with
                | nil => intro _ x hx; exact absurd hx (by simp)
                | cons h t ih =>
                  intro hn x hx
                  rcases List.mem_cons.mp hx with e | e
                  · subst e
                    rename_i y _ _
                    cases y with
                    | none => exact absurd List.mem_cons_self hn
                    | some w => exact ⟨w, h⟩
                  · exact ih (fun q => hn (List.mem_cons_of_mem _ q)) x e
              exact key hos hno
            refine sp_bind (sp_comO (f := fun x => if (∃ w, atI T x = some (some w) ∧ ∀ y ∈ w, y ∈ spots) then none else some x) (by omega) ?each) ?rest
            case each =>
              intro x hx
              obtain ⟨w, hwx⟩ := hw x hx
              have hw6 : w.length ≤ 6 := by
                obtain ⟨o, o1, _, o3⟩ := atI_in (xs := T) (k := x) (by have := hspr x hx; omega)
                rw [hwx] at o1
                cases o1
                exact hT6 w o3
              refine sp_bind (sp_ofO (P := fun z => z = some w) hwx rfl) fun z hz => ?_
              subst hz
              refine sp_bind (sp_ofO (P := fun z => z = w) rfl rfl) fun z hz => ?_
              subst hz
              refine sp_bind (sp_comF (by omega)) fun bad hb => ?_
              have hbad : bad = [] ↔ ∀ y ∈ z, y ∈ spots := by
                rw [hb]
                constructor
                · intro h y hy
                  by_cases hm : y ∈ spots
                  · exact hm
                  · have : y ∈ z.filterMap (fun own => if (!decide (own ∈ spots)) = true then some own else none) := List.mem_filterMap.mpr ⟨y, hy, by simp [hm]⟩
                    rw [h] at this
                    exact absurd this (by simp)
                · intro h
                  refine List.eq_nil_iff_forall_not_mem.mpr fun y hy => ?_
                  obtain ⟨y', h1, h2⟩ := List.mem_filterMap.mp hy
                  rw [if_neg (by simp [h y' h1])] at h2
                  cases h2
              refine sp_ite (fun hc => sp_pure ?_) fun hc => sp_pure ?_
              · have hne : bad ≠ [] := by simpa using hc
                rw [if_neg]
                rintro ⟨w', w1, w2⟩
                rw [hwx] at w1
                cases w1
                exact hne (hbad.mpr w2)
              · have hne : bad = [] := by simpa using hc
                rw [if_pos ⟨z, hwx, hbad.mp hne⟩]
            case rest =>
              intro bad hb
              have hbad : bad = [] ↔ Shut T spots := by
                rw [hb]
                constructor
                · intro h x hx
                  by_cases hm : ∃ w, atI T x = some (some w) ∧ ∀ y ∈ w, y ∈ spots
                  · exact hm
                  · have : x ∈ spots.filterMap (fun x => if (∃ w, atI T x = some (some w) ∧ ∀ y ∈ w, y ∈ spots) then none else some x) := List.mem_filterMap.mpr ⟨x, hx, by rw [if_neg hm]⟩
                    rw [h] at this
                    exact absurd this (by simp)
                · intro h
                  refine List.eq_nil_iff_forall_not_mem.mpr fun y hy => ?_
                  obtain ⟨y', h1, h2⟩ := List.mem_filterMap.mp hy
                  rw [if_pos (h y' h1)] at h2
                  cases h2
              refine sp_ite (fun hc => sp_need (by omega) (sp_pure (next _ ?_))) fun hc => sp_pure (next _ ?_)
              · have hs := hbad.mp (of_decide_eq_true hc)
                rw [List.map_append, List.filter_append, ← e3, hsp] at *
                simp [hs]
              · have hs : ¬ Shut T spots := fun h => (of_decide_eq_false hc) (hbad.mpr h)
                rw [List.map_append, List.filter_append, ← e3]
                rw [hsp] at hs
                simp [hs]
          · have hin : none ∈ os := by simpa using hc
            have hs : ¬ Shut T spots := by
              intro h
              obtain ⟨x, hx, h1⟩ := hos.mem none hin
              obtain ⟨w, h2, _⟩ := h x hx
              rw [h1] at h2
              cases h2
            rw [List.map_append, List.filter_append, ← e3]
            rw [hsp] at hs
            simp [hs]
  case more =>
    intro s hs
    have hne : ∀ k : Nat, k < 2 ^ n.toNat - 1 → sub n.toNat (k + 1) ≠ [] := fun k hk e => by
      have h0 : sub n.toNat 0 = [] := List.eq_nil_iff_forall_not_mem.mpr fun y hy => by
        have := (sub_mem.mp hy).2
        simp at this
      have := sub_inj (n := n.toNat) (m := k + 1) (m' := 0) (by omega) (by omega) (e.trans h0.symm)
      omega
    have hmem : ∀ l, l ∈ s ↔ Lot n T l := by
      intro l
      rw [hs, List.mem_filter, List.mem_map]
      constructor
      · rintro ⟨⟨k, hk, rfl⟩, h⟩
        have hk' := List.mem_range.mp hk
        exact ⟨hne k hk', sub_asc _ _, fun x hx => by have := (sub_mem.mp hx).1; omega, of_decide_eq_true h⟩
      · intro h
        obtain ⟨m, m1, m2⟩ := sub_onto (n := n.toNat) h.asc fun x hx => by have := h.rng x hx; omega
        have hm0 : m ≠ 0 := by
          intro e
          subst e
          refine h.ne (m2.symm.trans (List.eq_nil_iff_forall_not_mem.mpr fun y hy => ?_))
          have := (sub_mem.mp hy).2
          simp at this
        refine ⟨⟨m - 1, List.mem_range.mpr (by omega), ?_⟩, decide_eq_true h.shut⟩
        rw [show m - 1 + 1 = m by omega]; exact m2
    refine sp_need (fun l hl => ((hmem l).mp hl).ne) (sp_pure ⟨T, hT, ?_, ?_, fun l => (srt_perm s).mem_iff.trans (hmem l)⟩)
    · rw [(srt_perm s).length_eq, hs]
      refine Nat.le_trans (List.length_filter_le _ _) ?_
      simp; omega
    rw [(srt_perm s).nodup_iff, hs]
    unfold List.Nodup
    refine List.Pairwise.filter _ ?_
    rw [List.pairwise_map]
    refine (List.nodup_range).imp_of_mem fun {a b} ha hb hab e => hab ?_
    have ha' := List.mem_range.mp ha
    have hb' := List.mem_range.mp hb
    have := sub_inj (n := n.toNat) (m := a + 1) (m' := b + 1) (by omega) (by omega) e
    omega
end K26

set_option Elab.async false
set_option linter.all false
set_option maxRecDepth 100000
set_option maxHeartbeats 4000000
set_option autoImplicit false
namespace K26
open PySem PySem.Spec PyProof.Rows L2 Fx Fx.Urn
section
variable {n : Int} {rooms : List Int} {scene : List (Option Wy)} {T T' : List (Option (List Int))} {s : Int}
theorem tab_same (hl : rooms.length = n.toNat) (hT : Tab n rooms scene T) (hT' : Tab n rooms scene T') {x : Int} (hx : 0 ≤ x ∧ x < n) : (atI T' x = some none → atI T x = some none) ∧ ∀ w, atI T' x = some (some w) → ∃ w', atI T x = some (some w') ∧ ∀ y, y ∈ w' ↔ y ∈ w := by
  have hxn : x.toNat < rooms.length := by omega
  obtain ⟨o, a1, a2, a3⟩ := hT.ent x.toNat _ (List.getElem?_eq_getElem hxn)
  obtain ⟨o', b1, b2, b3⟩ := hT'.ent x.toNat _ (List.getElem?_eq_getElem hxn)
  have e1 : atI T x = some o := by unfold atI; rw [ixN_in (by rw [hT.len]; omega)]; exact a1
  have e2 : atI T' x = some o' := by unfold atI; rw [ixN_in (by rw [hT'.len]; omega)]; exact b1
  refine ⟨fun h => ?_, fun w h => ?_⟩
  · rw [e2] at h
    cases h
    rw [e1, a2.mpr (b2.mp rfl)]
  · rw [e2] at h
    cases h
    cases o with
    | none => exact nomatch b2.mpr (a2.mp rfl)
    | some w' => exact ⟨w', e1, fun y => (a3 w' rfl y).trans (b3 w rfl y).symm⟩
theorem tab_rng (hl : rooms.length = n.toNat) (ha : Al n scene) (hT : Tab n rooms scene T) : Rng n T := by
  refine ⟨hT.len, fun l hm x hx => ?_⟩
  obtain ⟨i, hi⟩ := List.mem_iff_getElem?.mp hm
  have hin : i < rooms.length := by
    have := (List.getElem?_eq_some_iff.mp hi).1
    rw [hT.len] at this; omega
  obtain ⟨o, a1, a2, a3⟩ := hT.ent i _ (List.getElem?_eq_getElem hin)
  rw [hi] at a1
  cases a1
  exact wsh_rng ha ((a3 l rfl x).mp hx)
theorem rt_rng (hR : Rng n T) (hs : 0 ≤ s ∧ s < n) {t : Int} (h : Rt T s t) : 0 ≤ t ∧ t < n := by
  induction h with
  | refl => exact hs
  | @step b c l h e m ih =>
    obtain ⟨o, o1, _, o3⟩ := atI_in (xs := T) (k := b) (by rw [hR.len]; omega)
    rw [e] at o1
    cases o1
    exact hR.rng _ o3 _ m
theorem rt_same (hl : rooms.length = n.toNat) (ha : Al n scene) (hT : Tab n rooms scene T) (hT' : Tab n rooms scene T') (hs : 0 ≤ s ∧ s < n) {t : Int} (h : Rt T' s t) : Rt T s t := by
  induction h with
  | refl => exact .refl
  | step h e m ih =>
    obtain ⟨w', h1, h2⟩ := (tab_same hl hT hT' (rt_rng (tab_rng hl ha hT') hs h)).2 _ e
    exact .step ih h1 ((h2 _).mpr m)
theorem told_same (hl : rooms.length = n.toNat) (ha : Al n scene) (hT : Tab n rooms scene T) (hT' : Tab n rooms scene T') (hs : 0 ≤ s ∧ s < n) {r : List Int} (h : Told T' s r) : Told T s r := by
  rcases h with ⟨h1, t, h2, h3⟩ | ⟨h1, h2, h3⟩
  · exact .inl ⟨h1, t, rt_same hl ha hT hT' hs h2, (tab_same hl hT hT' (rt_rng (tab_rng hl ha hT') hs h2)).1 h3⟩
  · refine .inr ⟨fun t ht => ?_, h2, fun t => ⟨fun h => rt_same hl ha hT hT' hs ((h3 t).mp h), fun h => (h3 t).mpr (rt_same hl ha hT' hT hs h)⟩⟩
    have ht' := rt_same hl ha hT' hT hs ht
    obtain ⟨l, hl'⟩ := h1 t ht'
    obtain ⟨w', h4, _⟩ := (tab_same hl hT hT' (rt_rng (tab_rng hl ha hT') hs ht')).2 _ hl'
    exact ⟨w', h4⟩
theorem told_one {r r' : List Int} (h : Told T s r) (h' : Told T s r') : r = r' := by
  rcases h with ⟨h1, t, h2, h3⟩ | ⟨h1, h2, h3⟩ <;> rcases h' with ⟨k1, u, k2, k3⟩ | ⟨k1, k2, k3⟩
  · rw [h1, k1]
  · obtain ⟨l, e⟩ := k1 t h2
    rw [h3] at e; cases e
  · obtain ⟨l, e⟩ := h1 u k2
    rw [k3] at e; cases e
  · exact asc_ext sto_int h2 k2 fun z => (h3 z).trans (k3 z).symm
theorem lot_has {l : List Int} (hL : Shut T l) (hs : s ∈ l) {t : Int} (h : Rt T s t) : t ∈ l := by
  induction h with
  | refl => exact hs
  | step h e m ih =>
    obtain ⟨w, w1, w2⟩ := hL _ ih
    rw [e] at w1
    cases w1
    exact w2 _ m
/-- the least lot with a station -/
theorem lots_least (hR : Rng n T) (hs : 0 ≤ s ∧ s < n) {r : List Int} (h : Told T s r) : (r = [] ∧ ∀ l, Lot n T l → s ∉ l) ∨ (Lot n T r ∧ s ∈ r ∧ ∀ l, Lot n T l → s ∈ l → (∀ x ∈ r, x ∈ l) ∧ (l.length ≤ r.length → l = r)) := by
  rcases h with ⟨h1, t, h2, h3⟩ | ⟨h1, h2, h3⟩
  · refine .inl ⟨h1, fun l hl hm => ?_⟩
    obtain ⟨w, w1, _⟩ := hl.shut t (lot_has hl.shut hm h2)
    rw [h3] at w1; cases w1
  · refine .inr ⟨⟨fun e => ?_, h2, fun x hx => rt_rng hR hs ((h3 x).mp hx), fun x hx => ?_⟩, (h3 s).mpr .refl, fun l hl hm => ?_⟩
    · have := (h3 s).mpr .refl
      rw [e] at this; exact absurd this (by simp)
    · obtain ⟨w, hw⟩ := h1 x ((h3 x).mp hx)
      exact ⟨w, hw, fun y hy => (h3 y).mpr (.step ((h3 x).mp hx) hw hy)⟩
    · have hsub : ∀ x ∈ r, x ∈ l := fun x hx => lot_has hl.shut hm ((h3 x).mp hx)
      refine ⟨hsub, fun hle => ?_⟩
      have nr := asc_nodup h2
      have nl := asc_nodup hl.asc
      have key : ∀ {a b : List Int}, a.Nodup → (∀ x ∈ a, x ∈ b) → b.length ≤ a.length → ∀ x ∈ b, x ∈ a := by
        intro a
        induction a with
        | nil => intro b _ _ hb x hx; have : b = [] := List.eq_nil_of_length_eq_zero (by simpa using hb); rw [this] at hx; exact hx
        | cons y a ih =>
          intro b hn hsub hb x hx
          have hy := hsub y List.mem_cons_self
          obtain ⟨n1, n2⟩ := List.nodup_cons.mp hn
          by_cases e : x = y
          · rw [e]; exact List.mem_cons_self
          · refine List.mem_cons_of_mem _ (ih (b := b.erase y) n2 (fun z hz => ?_) ?_ x ((List.mem_erase_of_ne e).mpr hx))
            · exact (List.mem_erase_of_ne (fun q => n1 (by rw [← q]; exact hz))).mpr (hsub z (List.mem_cons_of_mem _ hz))
            · rw [List.length_erase_of_mem hy]; simp only [List.length_cons] at hb; omega
      exact asc_ext sto_int hl.asc h2 fun z => ⟨fun hz => key nr hsub hle z hz, fun hz => hsub z hz⟩
end
theorem sp_closure {n : Int} (h2 : 2 ≤ n) (hn : n ≤ 6) {rails : List Int × List (Int × Int)} (hr : Rl n rails) {scene : List (Option Wy)} (hl : scene.length ≤ 20) (ha : Al n scene) {T : List (Option (List Int))} (hT : Tab n rails.1 scene T) {s : Int} (hs : 0 ≤ s ∧ s < n) :
    Sp (Nt.closure rails scene s) (Told T s) := by
  unfold Nt.closure
  exact sp_bind (sp_wanted h2 hn hr hl ha) fun T' hT' => sp_mono (sp_closed h2 hn (tab_rng hr.len ha hT') hs) fun r h => told_same hr.len ha hT hT' hs h
end K26

set_option Elab.async false
set_option linter.all false
set_option maxRecDepth 100000
set_option maxHeartbeats 4000000
set_option autoImplicit false
namespace K26
open PySem PySem.Spec PyProof.Rows L2 Fx Fx.Urn
theorem sp_reprK {ps : List PV} (h : PV.tames ps) (hs : PV.szs ps ≤ 90000) : Sp (reprW (.list (ps.map PV.pd))) (fun s => s = (PyData.list (ps.map PV.pd)).shown ∧ PyData.strOk s = true) := by
  obtain ⟨b, c⟩ := list_shown ps h
  exact sp_need ⟨b, Nat.le_trans c.len (by omega)⟩ (sp_pure ⟨rfl, c.ok⟩)
theorem sp_reprT {p : PV} (h : p.tame) (hs : p.sz ≤ 90000) : Sp (reprW p.pd) (fun s => s = p.pd.shown ∧ PyData.strOk s = true) := by
  obtain ⟨_, b, c⟩ := p.tame_ok h
  exact sp_need ⟨b, Nat.le_trans c.len (by omega)⟩ (sp_pure ⟨rfl, c.ok⟩)
theorem tame_ints {l : List Int} (h : ∀ x ∈ l, 0 ≤ x ∧ x < 100) : ((eS eI) l).tame := by
  show PV.tames _
  refine PV.tames_iff.mpr fun p hp => ?_
  obtain ⟨x, hx, rfl⟩ := List.mem_map.mp hp
  exact h x hx
theorem sz_le {τ : Type} {e : τ → PV} {m : Nat} : ∀ {xs : List τ}, (∀ x ∈ xs, (e x).sz ≤ m) → PV.szs (xs.map e) ≤ xs.length * m
  | [], _ => Nat.zero_le _
  | x :: xs, h => by
    have a := sz_le (xs := xs) fun y hy => h y (List.mem_cons_of_mem _ hy)
    have b := h x List.mem_cons_self
    rw [List.map_cons, PV.szs, List.length_cons, Nat.add_mul]
    omega
theorem sz_ints {l : List Int} : ((eS eI) l).sz ≤ 1 + l.length := by
  have := sz_le (e := eI) (m := 1) (xs := l) fun _ _ => Nat.le_refl _
  show 1 + PV.szs _ ≤ _
  omega
section
variable {n : Int} {rails : List Int × List (Int × Int)} {scene : List (Option Wy)}
theorem tame_all (hn : n ≤ 6) (hr : Rl n rails) (hl : scene.length ≤ 20) (ha : Al n scene) :
    PV.tames [((eP (eS eI) (eS (eP eI eI))) rails), ((eS (eO eW)) scene)] ∧ PV.szs [((eP (eS eI) (eS (eP eI eI))) rails), ((eS (eO eW)) scene)] ≤ 90000 := by
  have hrl := hr.len
  have hrf := hr.few
  refine ⟨⟨⟨tame_ints fun x hx => by have := hr.room x hx; omega, ?_, trivial⟩, ?_, trivial⟩, ?_⟩
  · show PV.tames _
    refine PV.tames_iff.mpr fun p hp => ?_
    obtain ⟨x, hx, rfl⟩ := List.mem_map.mp hp
    have := hr.line x hx
    exact ⟨(⟨by omega, by omega⟩ : 0 ≤ x.1 ∧ x.1 < 100), (⟨by omega, by omega⟩ : 0 ≤ x.2 ∧ x.2 < 100), trivial⟩
  · show PV.tames _
    refine PV.tames_iff.mpr fun p hp => ?_
    obtain ⟨x, hx, rfl⟩ := List.mem_map.mp hp
    cases x with
    | none => trivial
    | some w => exact (ha w hx).tame
  · have h1 := sz_ints (l := rails.1)
    have h2 := sz_le (e := eP eI eI) (m := 3) (xs := rails.2) fun _ _ => Nat.le_refl _
    have h3 := sz_le (e := eO eW) (m := 120) (xs := scene) fun x hx => by
      cases x with
      | none => exact (by decide : 1 ≤ 120)
      | some w => exact (ha w hx).sz
    show (1 + (((eS eI) rails.1).sz + ((1 + PV.szs (rails.2.map (eP eI eI))) + 0))) + ((1 + PV.szs (scene.map (eO eW))) + 0) ≤ 90000
    omega
theorem sp_kept (hn : n ≤ 6) (hr : Rl n rails) (hl : scene.length ≤ 20) (ha : Al n scene) :
    Sp (reprXW ([((eP (eS eI) (eS (eP eI eI))) rails), ((eS (eO eW)) scene)] : List PV)) (fun s => s = (PyData.list ([((eP (eS eI) (eS (eP eI eI))) rails), ((eS (eO eW)) scene)].map PV.pd)).shown ∧ PyData.strOk s = true) := by
  obtain ⟨h1, h2⟩ := tame_all hn hr hl ha
  refine sp_need (fun p hp => ?_) (sp_reprK h1 h2)
  simp only [List.mem_cons, List.not_mem_nil, or_false] at hp
  rcases hp with e | e
  · rw [e]
    have := (eqP (eqS eqI) (eqS (eqP eqI eqI))).ok rails
    exact ⟨this.1, Nat.le_trans this.2 (by decide)⟩
  · rw [e]
    have := (eqS (eqO eqW nnW)).ok scene
    exact ⟨this.1, Nat.le_trans this.2 (by decide)⟩
theorem filter_one {L : List (List Int)} {q : List Int → Bool} {r : List Int} (hn : L.Nodup) (hr : r ∈ L) (hq : ∀ l ∈ L, q l = true ↔ l = r) : L.filter q = [r] := by
  induction L with
  | nil => exact absurd hr (by simp)
  | cons x L ih =>
    obtain ⟨n1, n2⟩ := List.nodup_cons.mp hn
    by_cases e : x = r
    · subst e
      rw [List.filter_cons, if_pos ((hq x List.mem_cons_self).mpr rfl)]
      congr 1
      refine List.eq_nil_iff_forall_not_mem.mpr fun y hy => ?_
      obtain ⟨y1, y2⟩ := List.mem_filter.mp hy
      have := (hq y (List.mem_cons_of_mem _ y1)).mp y2
      rw [this] at y1; exact n1 y1
    · rw [List.filter_cons, if_neg (fun h => e ((hq x List.mem_cons_self).mp h))]
      exact ih n2 ((List.mem_cons.mp hr).resolve_left fun h => e h.symm) fun l hl => hq l (List.mem_cons_of_mem _ hl)
end
theorem sp_law : Sp Nt.law (fun a => a = true) := by
  unfold Nt.law
  refine sp_lp (Pl := fun c => match c with
    | .next _ => True
    | .ret r => r = true) (sp_bind (sp_bind (P := fun a => a = 6) (sp_pure rfl) fun a h => by subst h; exact sp_rng1 (by omega)) fun xs _ => sp_forC (I := fun _ _ => True) ?body (fun _ _ => trivial) _ _ trivial) (fun _ _ => sp_pure rfl) fun r h => h
  case body =>
    intro turn rest s _
    refine sp_bind (P := fun rails => ∃ n : Int, 2 ≤ n ∧ n ≤ 6 ∧ Rl n rails) (sp_bind (P := fun n => 2 ≤ n ∧ n ≤ 6) (sp_bind (sp_draw (by omega)) fun y hy => sp_pure (by omega)) fun n hn => sp_mono (sp_rails hn) fun r hr => ⟨n, hn.1, hn.2, hr⟩) fun rails ⟨n, n2, n6, hr⟩ => ?_
    refine sp_bind (sp_scene n2 n6 hr) fun scene ⟨hl, ha⟩ => ?_
    have hrl := hr.len
    refine sp_bind (P := fun z => ∃ T, Tab n rails.1 scene T ∧ z.1.length ≤ 64 ∧ z.1.Nodup ∧ (∀ l, l ∈ z.1 ↔ Lot n T l) ∧ z.2 = (PyData.list ([((eP (eS eI) (eS (eP eI eI))) rails), ((eS (eO eW)) scene)].map PV.pd)).shown ∧ PyData.strOk z.2 = true) (sp_bind (sp_lots n2 n6 hr hl ha) fun L ⟨T, hT, h0, h1, h2⟩ => sp_bind (sp_kept n6 hr hl ha) fun kept hk => sp_pure ⟨T, hT, h0, h1, h2, hk⟩) fun ⟨L, kept⟩ ⟨T, hT, hL64, hnd, hmem, hk, hko⟩ => ?_
    simp only at hL64 hnd hmem hk hko
    have hR := tab_rng hrl ha hT
    refine sp_lp (Pl := fun c => match c with
      | .next _ => True
      | .ret r => r = true) (sp_bind (sp_bind (P := fun a => a = (rails.1.length : Int)) (sp_pure rfl) fun a h => by subst h; exact sp_rng1 (by omega)) fun ys hys => sp_forC (I := fun rest _ => ∀ x ∈ rest, 0 ≤ x ∧ x < n) ?spots (fun _ _ => trivial) _ _ ?init) ?after (fun r h => h)
    case init =>
      intro x hx
      rw [hys] at hx
      have := mem_rng.mp hx
      omega
    case after =>
      intro s1 _
      refine sp_bind (P := fun b => b = false) (sp_bind (sp_kept n6 hr hl ha) fun z hz => sp_bind (P := fun y => y = kept) (sp_pure rfl) fun y hy => sp_need ⟨hz.2, by rw [hy]; exact hko⟩ (sp_pure ?_)) fun b hb => sp_ite (fun h => by rw [hb] at h; cases h) fun _ => sp_pure trivial
      rw [hy, hz.1, hk]; simp
    case spots =>
      intro spot rest s1 hspots
      have hs := hspots spot List.mem_cons_self
      have hrest : ∀ x ∈ rest, 0 ≤ x ∧ x < n := fun x hx => hspots x (List.mem_cons_of_mem _ hx)
      refine sp_bind (P := fun z => z = L.filter fun l => decide (spot ∈ l)) (show Sp (W.comF _ L) _ from sp_mono (sp_comF (by omega)) fun z hz => by rw [hz, filterMap_filter]) fun holding hh => ?_
      have hhm : ∀ l, l ∈ holding ↔ Lot n T l ∧ spot ∈ l := fun l => by
        rw [hh, List.mem_filter, hmem]
        exact ⟨fun ⟨a, b⟩ => ⟨a, of_decide_eq_true b⟩, fun ⟨a, b⟩ => ⟨a, decide_eq_true b⟩⟩
      have hhl : holding.length ≤ 64 := by rw [hh]; exact Nat.le_trans (List.length_filter_le _ _) hL64
      have hhn : holding.Nodup := by rw [hh]; exact List.Pairwise.filter _ hnd
      refine sp_bind (P := fun least => holding ≠ [] → (∃ l ∈ holding, (l.length : Int) = least) ∧ ∀ l ∈ holding, least ≤ l.length) (sp_bind (P := fun b => b = !decide (holding = [])) (sp_pure rfl) fun b hb => sp_ite (fun hc => sp_bind (P := fun z => z = holding.map fun l => (l.length : Int)) (show Sp (W.comF _ holding) _ from sp_mono (sp_comF (by omega)) fun z hz => by rw [hz]; exact congrFun List.filterMap_eq_map' holding) fun z hz => ?_) fun hc => sp_pure fun hne => ?_) fun least hleast => ?_
      · have hne : holding ≠ [] := by rw [hc] at hb; simpa using hb.symm
        have hzne : z ≠ [] := by rw [hz]; simpa using hne
        refine sp_need hzne (sp_pure fun _ => ⟨?_, fun l hl' => ?_⟩)
        · have hm : minL z ∈ holding.map (fun l => (l.length : Int)) := by
            have := minL_mem z hzne
            rw [hz] at this ⊢
            exact this
          obtain ⟨l, l1, l2⟩ := List.mem_map.mp hm
          exact ⟨l, l1, l2⟩
        · refine minL_le z _ ?_
          rw [hz]
          exact List.mem_map_of_mem hl'
      · rw [hb] at hc
        simp at hc
        exact absurd hc hne
      · refine sp_bind (P := fun z => z = holding.filter fun l => decide ((l.length : Int) = least)) (show Sp (W.comF _ holding) _ from sp_mono (sp_comF (by omega)) fun z hz => by rw [hz, filterMap_filter]) fun due hdue => ?_
        have cl := sp_closure n2 n6 hr hl ha hT hs
        refine sp_bind (P := Told T spot) (sp_bind (P := fun _ => True) (sp_pure trivial) fun _ _ => sp_ite (fun _ => cl) fun _ => cl) fun told htold => ?_
        have hll := lots_least hR hs htold
        have hchoice : (if due = [] then [[]] else due) = [told] ∧ (∀ l ∈ holding, ∀ x ∈ told, x ∈ l) := by
          rcases hll with ⟨e, h⟩ | ⟨h1, h2', h3⟩
          · have he : holding = [] := List.eq_nil_iff_forall_not_mem.mpr fun l hm => h l ((hhm l).mp hm).1 ((hhm l).mp hm).2
            rw [he] at hdue ⊢
            have : due = [] := by rw [hdue]; rfl
            rw [if_pos this, e]
            exact ⟨rfl, fun l hm => absurd hm (by simp)⟩
          · have ht : told ∈ holding := (hhm told).mpr ⟨h1, h2'⟩
            have hne : holding ≠ [] := List.ne_nil_of_mem ht
            obtain ⟨⟨l0, m1, m2⟩, m3⟩ := hleast hne
            have hlen : (told.length : Int) = least := by
              have a := m3 told ht
              have b := (h3 l0 ((hhm l0).mp m1).1 ((hhm l0).mp m1).2).2 (by omega)
              rw [b] at m2; exact m2
            have hd : due = [told] := by
              rw [hdue]
              refine filter_one hhn ht fun l hm => ⟨fun hq => ?_, fun e => ?_⟩
              · have := of_decide_eq_true hq
                exact (h3 l ((hhm l).mp hm).1 ((hhm l).mp hm).2).2 (by omega)
              · rw [e]; exact decide_eq_true hlen
            rw [hd]
            exact ⟨by simp, fun l hm => (h3 l ((hhm l).mp hm).1 ((hhm l).mp hm).2).1⟩
        obtain ⟨hch, hsub⟩ := hchoice
        have htr : (∀ x ∈ told, 0 ≤ x ∧ x < 100) ∧ told.length ≤ 6 := by
          rcases hll with ⟨e, _⟩ | ⟨h1, _⟩
          · rw [e]; exact ⟨by simp, by decide⟩
          · refine ⟨fun x hx => by have := h1.rng x hx; omega, ?_⟩
            have := nodup_len n.toNat told (asc_nodup h1.asc) fun v hv => by have := h1.rng v hv; omega
            omega
        have htt : PV.tames ([told].map (eS eI)) := ⟨tame_ints htr.1, trivial⟩
        have hts : PV.szs ([told].map (eS eI)) ≤ 90000 := by
          have := sz_ints (l := told)
          show ((eS eI) told).sz + 0 ≤ _
          have := htr.2
          omega
        have htz : ((eS eI) told).sz ≤ 90000 := hts
        have rp := sp_reprK htt hts
        have rt := sp_reprT (tame_ints htr.1) htz
        refine sp_bind (P := fun b => b = false) (sp_bind rp fun y hy => sp_bind (P := fun z => z = y) (sp_bind (P := fun z => z = [told]) (sp_bind (P := fun b => b = !decide (due = [])) (sp_pure rfl) fun b hb => sp_ite (fun hc => sp_pure ?_) fun hc => sp_pure ?_) fun z hz => by subst hz; exact sp_mono rp fun z hz => hz.1.trans hy.1.symm) fun z hz => sp_need ⟨hy.2, by rw [hz]; exact hy.2⟩ (sp_pure (by rw [hz]; simp))) fun b hb => sp_ite (fun h => by rw [hb] at h; cases h) fun _ => ?_
        · rw [hb] at hc
          have : due ≠ [] := by simpa using hc
          rwa [if_neg this] at hch
        · rw [hb] at hc
          have : due = [] := by simpa using hc
          rwa [if_pos this] at hch
        · refine sp_bind (P := fun b => b = false) (sp_bind (P := fun z => z = []) (show Sp (W.comO _ holding) _ from sp_mono (sp_comO (f := fun _ => none) (by omega) fun l hm => ?_) fun z hz => by rw [hz]; simp) fun z hz => sp_bind (P := fun y => y = []) (sp_pure rfl) fun y hy => sp_pure (by rw [hz, hy]; simp)) fun b hb => sp_ite (fun h => by rw [hb] at h; cases h) fun _ => ?_
          · refine sp_bind (P := fun b => b = false) (sp_bind (P := fun z => z = []) (show Sp (W.comF _ told) _ from sp_mono (sp_comF (by have := htr.2; omega)) fun z hz => ?_) fun z hz => sp_bind (P := fun y => y = []) (sp_pure rfl) fun y hy => sp_pure (by rw [hz, hy]; simp)) fun b hb => sp_ite (fun h => by rw [hb] at h; cases h) fun _ => sp_pure rfl
            rw [hz]
            refine List.eq_nil_iff_forall_not_mem.mpr fun y hy => ?_
            obtain ⟨y', h1, h2'⟩ := List.mem_filterMap.mp hy
            rw [if_neg (by simp [hsub l hm y' h1])] at h2'
            cases h2'
          · refine sp_bind (P := fun b => b = false) (sp_bind (P := fun y => y = ((eS eI) told).pd.shown ∧ PyData.strOk y = true) (sp_bind cl fun r hr' => by rw [told_one hr' htold]; exact rt) fun y hy => sp_bind rt fun z hz => sp_need ⟨hy.2, hz.2⟩ (sp_pure (by rw [hy.1, hz.1]; simp))) fun b hb => sp_ite (fun h => by rw [hb] at h; cases h) fun _ => sp_pure hrest
theorem law_all (ns : List Int) (hl : ns.length ≤ 63) : ∃ st', F_law [.lz (ns.map .int)] [] = .ok (.v (.bl true)) st' := by
  obtain ⟨rest, e, hw⟩ := w_law
  have : F_law = mkF 14 (fSeq (fSet 1 (fCall F_law_urn (fCons (fName 0) fNil))) rest) := by
    rw [← e]; rfl
  rw [this]
  exact law_walk (c := 26102) (n := 14) (by decide) rfl hw (sp_law _ _ fun a h => h) ns hl
end K26

set_option Elab.async false
set_option linter.all false
set_option maxRecDepth 100000
set_option maxHeartbeats 0
set_option autoImplicit false
namespace K26
open PySem PySem.Spec PyProof.Rows L2 Fx
/-! ### the head -/
def d_wanted : He.DefD := ⟨("wanted", none), "wanted", "wanted", defArgs s_wanted, defBody s_wanted, defScope s_wanted, [], []⟩
def d_closed_from : He.DefD := ⟨("closed_from", none), "closed_from", "closed_from", defArgs s_closed_from, defBody s_closed_from, defScope s_closed_from, [], []⟩
def d_closure : He.DefD := ⟨("closure", none), "closure", "closure", defArgs s_closure, defBody s_closure, defScope s_closure, [], []⟩
def d_law_urn : He.DefD := ⟨("_law_urn", none), "_law_urn", "_law_urn", defArgs s_law_urn, defBody s_law_urn, defScope s_law_urn, [], []⟩
def d_law_draw : He.DefD := ⟨("_law_draw", none), "_law_draw", "_law_draw", defArgs s_law_draw, defBody s_law_draw, defScope s_law_draw, [], []⟩
def d_law_pick : He.DefD := ⟨("_law_pick", none), "_law_pick", "_law_pick", defArgs s_law_pick, defBody s_law_pick, defScope s_law_pick, [], []⟩
def d_law_mixed : He.DefD := ⟨("_law_mixed", none), "_law_mixed", "_law_mixed", defArgs s_law_mixed, defBody s_law_mixed, defScope s_law_mixed, [], []⟩
def d_law_rails : He.DefD := ⟨("_law_rails", none), "_law_rails", "_law_rails", defArgs s_law_rails, defBody s_law_rails, defScope s_law_rails, [], []⟩
def d_law_path : He.DefD := ⟨("_law_path", none), "_law_path", "_law_path", defArgs s_law_path, defBody s_law_path, defScope s_law_path, [], []⟩
def d_law_loop : He.DefD := ⟨("_law_loop", none), "_law_loop", "_law_loop", defArgs s_law_loop, defBody s_law_loop, defScope s_law_loop, [], []⟩
def d_law_scene : He.DefD := ⟨("_law_scene", none), "_law_scene", "_law_scene", defArgs s_law_scene, defBody s_law_scene, defScope s_law_scene, [], []⟩
def d_law_needs : He.DefD := ⟨("_law_needs", none), "_law_needs", "_law_needs", defArgs s_law_needs, defBody s_law_needs, defScope s_law_needs, [], []⟩
def d_law_lots : He.DefD := ⟨("_law_lots", none), "_law_lots", "_law_lots", defArgs s_law_lots, defBody s_law_lots, defScope s_law_lots, [], []⟩
def d_law : He.DefD := ⟨("law", none), "law", "law", defArgs s_law, defBody s_law, defScope s_law, [], []⟩
def fn : List He.DefD := [d_wanted, d_closed_from, d_closure, d_law_urn, d_law_draw, d_law_pick, d_law_mixed, d_law_rails, d_law_path, d_law_loop, d_law_scene, d_law_needs, d_law_lots, d_law]
def fa : List He.Fa := [.glo "wanted", .glo "closed_from", .glo "closure", .glo "_law_urn", .glo "_law_draw", .glo "_law_pick", .glo "_law_mixed", .glo "_law_rails", .glo "_law_path", .glo "_law_loop", .glo "_law_scene", .glo "_law_needs", .glo "_law_lots", .glo "law", .free "abs", .free "enumerate", .free "int", .free "len", .free "list", .free "min", .free "range", .free "repr", .free "set", .free "sorted", .free "tuple"]
abbrev R : PySem.W.OpenRow := PySem.W.OpenLaw.row PySem.Challenge.rw_singlegates_k26_whole_the_least_lot_of_a
abbrev hk : PySem.W.Hook := He.hookD 4 fa fn
def ob (s : PySem.W.SharedT) : He.AlD := He.obsDG 4 fa fn (HandSHeadRun.getT s)
theorem ob_eq (s : PySem.W.SharedT) : ob s = hk.obs s.abs := He.obsDG_eq (HandSHeadRun.getT_eq s)
abbrev loose : List Str := (["wanted", "closed_from", "closure", "_law_urn", "_law_draw", "_law_pick", "_law_mixed", "_law_rails", "_law_path", "_law_loop", "_law_scene", "_law_needs", "_law_lots"] : List Str)
theorem run (w : World) : HandSHeadRun.RunEq R (PySem.W.view R.prog [15]) hk ob 840 loose w := by
  intro os
  kernel_rfl
theorem kb_closure_station_standing_net {K : PySem.W.Frag} {f : Addr} {fd : FuncData} (F : FnP K "closure" s_closure f fd) (s : Shared) (us : List Value) (hl : us.length = 3) : BindsTo s fd ⟨[], List.zip ["station", "standing", "net"] us⟩ (List.zip ["net", "standing", "station"] (pick [2, 1, 0] us)) := by
  obtain ⟨oc, od, dV, kV, doc, pm, an, cdv, ct, osl, rfl, lk, hcd, hD, hK⟩ := F.ex
  rcases hD with ⟨_, rfl⟩ | ⟨e, _⟩
  · refine .of_eq ?_
    match us, hl with
    | [_, _, _], _ => rfl
  · exact absurd rfl e
theorem facts {P : Program} {w : World} {K : PySem.W.Frag} {h : Heap} {mg : Str → Option Value} {f : Addr} (X : K.In h) (G : h.Ns mainGlobals mg) (hfa : mg ("law" : Str) = some (.ref f)) (c : He.SaysD fa fn K) :
    ∃ fd : FuncData, (∀ (s : Shared) (v : Value), BindsTo s fd ⟨[v], []⟩ [("script", v)]) ∧ ∀ base : Heap, K.In base → base.Ns mainGlobals mg → FnG P w K mg base 13 f fd ["script"] F_law := by
  obtain ⟨fd0, D0⟩ := c.def_ 0 (d := d_wanted) rfl
  obtain ⟨fd1, D1⟩ := c.def_ 1 (d := d_closed_from) rfl
  obtain ⟨fd2, D2⟩ := c.def_ 2 (d := d_closure) rfl
  obtain ⟨fd3, D3⟩ := c.def_ 3 (d := d_law_urn) rfl
  obtain ⟨fd4, D4⟩ := c.def_ 4 (d := d_law_draw) rfl
  obtain ⟨fd5, D5⟩ := c.def_ 5 (d := d_law_pick) rfl
  obtain ⟨fd6, D6⟩ := c.def_ 6 (d := d_law_mixed) rfl
  obtain ⟨fd7, D7⟩ := c.def_ 7 (d := d_law_rails) rfl
  obtain ⟨fd8, D8⟩ := c.def_ 8 (d := d_law_path) rfl
  obtain ⟨fd9, D9⟩ := c.def_ 9 (d := d_law_loop) rfl
  obtain ⟨fd10, D10⟩ := c.def_ 10 (d := d_law_scene) rfl
  obtain ⟨fd11, D11⟩ := c.def_ 11 (d := d_law_needs) rfl
  obtain ⟨fd12, D12⟩ := c.def_ 12 (d := d_law_lots) rfl
  obtain ⟨fd13, D13⟩ := c.def_ 13 (d := d_law) rfl
  have e := hfa.symm.trans (He.glo_ok X G (c.fact 13 (f := .glo "law") rfl))
  cases e
  have b := FunD.bindsA (ps := ["script"]) D13 fun _ _ _ _ _ _ us hl => match us, hl with | [_], _ => rfl
  exact ⟨fd13, fun s v => b s [v] rfl, fun base _ _ => ok_law {
    f_wanted := _, fd_wanted := fd0, D_wanted := D0, g_wanted := He.glo_ok X G (c.fact 0 (f := .glo "wanted") rfl), b_wanted := D0.bindsN fun _ _ _ _ _ _ us hl => match us, hl with | [_, _], _ => rfl,
    f_closed_from := _, fd_closed_from := fd1, D_closed_from := D1, g_closed_from := He.glo_ok X G (c.fact 1 (f := .glo "closed_from") rfl), b_closed_from := D1.bindsN fun _ _ _ _ _ _ us hl => match us, hl with | [_, _], _ => rfl,
    f_closure := _, fd_closure := fd2, D_closure := D2, g_closure := He.glo_ok X G (c.fact 2 (f := .glo "closure") rfl), b_closure := D2.bindsN fun _ _ _ _ _ _ us hl => match us, hl with | [_, _, _], _ => rfl,
    f_law_urn := _, fd_law_urn := fd3, D_law_urn := D3, g_law_urn := He.glo_ok X G (c.fact 3 (f := .glo "_law_urn") rfl), b_law_urn := D3.bindsN fun _ _ _ _ _ _ us hl => match us, hl with | [_], _ => rfl,
    f_law_draw := _, fd_law_draw := fd4, D_law_draw := D4, g_law_draw := He.glo_ok X G (c.fact 4 (f := .glo "_law_draw") rfl), b_law_draw := D4.bindsN fun _ _ _ _ _ _ us hl => match us, hl with | [_, _], _ => rfl,
    f_law_pick := _, fd_law_pick := fd5, D_law_pick := D5, g_law_pick := He.glo_ok X G (c.fact 5 (f := .glo "_law_pick") rfl), b_law_pick := D5.bindsN fun _ _ _ _ _ _ us hl => match us, hl with | [_, _], _ => rfl,
    f_law_mixed := _, fd_law_mixed := fd6, D_law_mixed := D6, g_law_mixed := He.glo_ok X G (c.fact 6 (f := .glo "_law_mixed") rfl), b_law_mixed := D6.bindsN fun _ _ _ _ _ _ us hl => match us, hl with | [_, _], _ => rfl,
    f_law_rails := _, fd_law_rails := fd7, D_law_rails := D7, g_law_rails := He.glo_ok X G (c.fact 7 (f := .glo "_law_rails") rfl), b_law_rails := D7.bindsN fun _ _ _ _ _ _ us hl => match us, hl with | [_, _], _ => rfl,
    f_law_path := _, fd_law_path := fd8, D_law_path := D8, g_law_path := He.glo_ok X G (c.fact 8 (f := .glo "_law_path") rfl), b_law_path := D8.bindsN fun _ _ _ _ _ _ us hl => match us, hl with | [_, _, _, _, _], _ => rfl,
    f_law_loop := _, fd_law_loop := fd9, D_law_loop := D9, g_law_loop := He.glo_ok X G (c.fact 9 (f := .glo "_law_loop") rfl), b_law_loop := D9.bindsN fun _ _ _ _ _ _ us hl => match us, hl with | [_, _, _], _ => rfl,
    f_law_scene := _, fd_law_scene := fd10, D_law_scene := D10, g_law_scene := He.glo_ok X G (c.fact 10 (f := .glo "_law_scene") rfl), b_law_scene := D10.bindsN fun _ _ _ _ _ _ us hl => match us, hl with | [_, _], _ => rfl,
    f_law_needs := _, fd_law_needs := fd11, D_law_needs := D11, g_law_needs := He.glo_ok X G (c.fact 11 (f := .glo "_law_needs") rfl), b_law_needs := D11.bindsN fun _ _ _ _ _ _ us hl => match us, hl with | [_, _], _ => rfl,
    f_law_lots := _, fd_law_lots := fd12, D_law_lots := D12, g_law_lots := He.glo_ok X G (c.fact 12 (f := .glo "_law_lots") rfl), b_law_lots := D12.bindsN fun _ _ _ _ _ _ us hl => match us, hl with | [_, _], _ => rfl,
    f_law := _, fd_law := fd13, D_law := D13, g_law := He.glo_ok X G (c.fact 13 (f := .glo "law") rfl), b_law := D13.bindsN fun _ _ _ _ _ _ us hl => match us, hl with | [_], _ => rfl,
    k_closure_station_standing_net := fun s us hl => kb_closure_station_standing_net D2 s us hl,
    n_abs := He.free_ok X G (c.fact 14 (f := .free "abs") rfl),
    n_enumerate := He.free_ok X G (c.fact 15 (f := .free "enumerate") rfl),
    n_int := He.free_ok X G (c.fact 16 (f := .free "int") rfl),
    n_len := He.free_ok X G (c.fact 17 (f := .free "len") rfl),
    n_list := He.free_ok X G (c.fact 18 (f := .free "list") rfl),
    n_min := He.free_ok X G (c.fact 19 (f := .free "min") rfl),
    n_range := He.free_ok X G (c.fact 20 (f := .free "range") rfl),
    n_repr := He.free_ok X G (c.fact 21 (f := .free "repr") rfl),
    n_set := He.free_ok X G (c.fact 22 (f := .free "set") rfl),
    n_sorted := He.free_ok X G (c.fact 23 (f := .free "sorted") rfl),
    n_tuple := He.free_ok X G (c.fact 24 (f := .free "tuple") rfl) }⟩
end K26
open PySem PySem.W PySem.Calls PyProof.Rows
theorem K26.holds_of (hF : ∀ ns : List Int, ns.length ≤ 63 → (∀ z ∈ ns, Builtin.Int.intBits z ≤ 1048576) → ∃ st', K26.F_law [.lz (ns.map .int)] [] = .ok (.v (.bl true)) st') : PySem.Challenge.rw_singlegates_k26_whole_the_least_lot_of_a.Holds := by
  w_on; o_law
  refine HandSHeadRun.head_any (r := OpenLaw.row PySem.Challenge.rw_singlegates_k26_whole_the_least_lot_of_a) (q := view (OpenLaw.row PySem.Challenge.rw_singlegates_k26_whole_the_least_lot_of_a).prog [15]) (H := K26.hk) (ob := K26.ob) (M := 840) (loose := K26.loose) (d := HandSHeadRun.topDef (OpenLaw.row PySem.Challenge.rw_singlegates_k26_whole_the_least_lot_of_a).prog 15) (kwd := []) K26.ob_eq
    (by kernel_rfl) (fun s => by kernel_rfl) K26.run (by kernel_rfl) (by kernel_rfl) (by kernel_rfl) (by rfl) (by first | assumption | decide +kernel) (by decide +kernel) ⟨rfl, rfl, rfl, rfl, rfl, by decide +kernel⟩ ?hw ?hc
  case hw => w_witness2
  case hc =>
    refine Fx.walk_G (l := PySem.Challenge.rw_singlegates_k26_whole_the_least_lot_of_a) (n := 63) (k := 13) (x := "script") (F := K26.F_law) rfl (by decide) (by kernel_rfl) ⟨rfl, by decide, by decide⟩ ?F hF
    intro w mg fa h Y G hmg0
    obtain ⟨K, KX, c⟩ := Y
    have hmg : mg ("law" : PySem.Str) = some (.ref fa) := by
      have e : (HandSHeadRun.topDef (OpenLaw.row PySem.Challenge.rw_singlegates_k26_whole_the_least_lot_of_a).prog 15).name = ("law" : PySem.Str) := by kernel_rfl
      rw [← e]
      exact hmg0
    obtain ⟨fd, hb, hF⟩ := K26.facts (P := (PySem.Challenge.rw_singlegates_k26_whole_the_least_lot_of_a).prog) (w := w) KX G hmg c
    exact ⟨K, fd, KX, hb, hF⟩

theorem PySem.Challenge.cw_singlegates_k26_whole_the_least_lot_of_a_holds : PySem.Challenge.rw_singlegates_k26_whole_the_least_lot_of_a.Holds :=
  K26.holds_of fun ns hl _ => K26.law_all ns hl
