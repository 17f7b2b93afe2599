import PyProof.Rows.All
import Wide.All
import OpenK.AllK
import Wide.FinOn
import PySem.Challenge.RW_singlegates_k41_whole_gates_beside_all_r
import HandS.ForMost
import HandS.ForExc
import HandS.TupSets
import HandS.Walk
import HandS.TupAny
import HandS.TupLe
import HandS.IsInst
import HandS.Deep
import HandS.Wide
import HandS.SortInts
import HandS.EndBits
import HandS.Conv
import HandS.TryMany
import HandS.Strs
import HandS.Defaults
import HandS.HeadHook2
import KE.GoesZip
import KE.KDictZip
import HandS.Zip
import KE.GoesEnum
import PyProof.ListNew
import HandS.Style
import PyProof.SumWalk
import PyProof.WalksMore
import KE.KStateDown
import HandS.Head0
import HandS.Head1
import HandS.Head2
import HandS.HeadEnd
import HandS.HeadHook1
set_option Elab.async false
set_option linter.all false
set_option maxRecDepth 100000
set_option maxHeartbeats 4000000
set_option autoImplicit false
/-! Fx: values as plain data, a store of objects by number, defs as total functions. Part A: data, relations. -/
namespace Fx
open PySem PySem.Spec PyProof.Rows L2

/-- a value as data; ref n: the object n of the store; lz: a list that nobody can write (the script) -/
inductive D where
  | non | bl (b : Bool) | int (i : Int) | str (x : Str) | tup (xs : List D) | ref (n : Nat) | lz (xs : List D)

/-- an object: a list; a dict by ints and texts; a dict by tuples of such; a set of tuples of ints -/
inductive O where
  | lst (xs : List D) | dK (kvs : List (Key × D)) | dT (kvs : List (List Key × D)) | sT (L : List (List Int)) | sI (L : List Int)

abbrev Store := List O
abbrev Env := List (Option D)
/-- what an expression gives: a value, or a new object that nobody holds yet -/
inductive R where
  | v (d : D) | o (x : O)

/-- an exception: its class by name, its fields -/
structure Ex where
  cls : Str
  fs : List (Str × D)

inductive Out (α : Type) where
  | ok (a : α) (st : Store) | exc (e : Ex) (st : Store) | stuck

def Out.bind {α β : Type} (x : Out α) (f : α → Store → Out β) : Out β :=
  match x with
  | .ok a st => f a st
  | .exc e st => .exc e st
  | .stuck => .stuck
@[simp] theorem Out.bind_ok {α β : Type} (a : α) (st : Store) (f : α → Store → Out β) : (Out.ok a st).bind f = f a st := rfl
@[simp] theorem Out.bind_exc {α β : Type} (e : Ex) (st : Store) (f : α → Store → Out β) : (Out.exc e st : Out α).bind f = .exc e st := rfl
@[simp] theorem Out.bind_stuck {α β : Type} (f : α → Store → Out β) : (Out.stuck : Out α).bind f = .stuck := rfl

/-! ### relations -/
def FzL (K : PySem.W.Frag) (H : Hp) (a : Addr) (xs : List V) : Prop :=
  (∃ o, H a = some (.frz o (.lst xs))) ∨
    ∃ (o : Obj) (its : Array Value) (n : Nat), K.lookup a = some o ∧ o.cls = .type "list" ∧ o.dict = none ∧ o.data = .seq its n ∧ its.size ≤ sizeLine ∧ Vals xs its.toList
theorem FzL.sq {K : PySem.W.Frag} {H : Hp} {a : Addr} {xs : List V} (h : FzL K H a xs) : SqL K H a xs := by
  rcases h with h | h
  · exact .inl (.inr h)
  · exact .inr h
mutual
inductive RD (K : PySem.W.Frag) (H : Hp) (φ : List Addr) : D → V → Prop
  | non : RD K H φ .non .non
  | bl (b : Bool) : RD K H φ (.bl b) (.bl b)
  | int (i : Int) : RD K H φ (.int i) (.int i)
  | str (x : Str) : RD K H φ (.str x) (.str x)
  | tup {a : Addr} {vs : List V} {xs : List D} (h : H a = some (.tup vs)) (r : RDs K H φ xs vs) : RD K H φ (.tup xs) (.ref a)
  | ref {n : Nat} {a : Addr} (h : φ[n]? = some a) : RD K H φ (.ref n) (.ref a)
  | lz {a : Addr} {vs : List V} {xs : List D} (h : FzL K H a vs) (r : RDs K H φ xs vs) : RD K H φ (.lz xs) (.ref a)
inductive RDs (K : PySem.W.Frag) (H : Hp) (φ : List Addr) : List D → List V → Prop
  | nil : RDs K H φ [] []
  | cons {d : D} {ds : List D} {v : V} {vs : List V} (h : RD K H φ d v) (t : RDs K H φ ds vs) : RDs K H φ (d :: ds) (v :: vs)
end

/-- the values of a dict -/
inductive RKs {κ : Type} (K : PySem.W.Frag) (H : Hp) (φ : List Addr) : List (κ × D) → List (κ × V) → Prop
  | nil : RKs K H φ [] []
  | cons {k : κ} {d : D} {ds : List (κ × D)} {v : V} {vs : List (κ × V)} (h : RD K H φ d v) (t : RKs K H φ ds vs) : RKs K H φ ((k, d) :: ds) ((k, v) :: vs)

variable (P : Program) (w : World)

inductive RO (K : PySem.W.Frag) (H : Hp) (φ : List Addr) : O → Addr → Prop
  | lst {a : Addr} {xs : List D} {vs : List V} (h : H a = some (.lst vs)) (r : RDs K H φ xs vs) : RO K H φ (.lst xs) a
  | dK {a : Addr} {kvs : List (Key × D)} {kws : List (Key × V)} (h : H a = some (.dK kws)) (r : RKs K H φ kvs kws) : RO K H φ (.dK kvs) a
  | dT {a : Addr} {kvs : List (List Key × D)} {kws : List (List Key × V)} (h : H a = some (.dT kws)) (r : RKs K H φ kvs kws) : RO K H φ (.dT kvs) a
  | sT {a : Addr} {L : List (List Int)} {M : List (Addr × List Int)} (h : H a = some (SetTO P w a M)) (t : ∀ p ∈ M, H p.1 = some (.tup (p.2.map V.int))) (e : ∀ t : List Int, t ∈ M.map (·.2) ↔ t ∈ L) : RO K H φ (.sT L) a
  | sI {a : Addr} {L : List Int} {S : Int → Bool} {n : Nat} (h : H a = some (SetO w a S n)) (m : ∀ k : Int, k ∈ L ↔ S k = true) (e : L.length = n) (nd : L.Nodup) : RO K H φ (.sI L) a

inductive ROs (K : PySem.W.Frag) (H : Hp) (φ : List Addr) : List O → List Addr → Prop
  | nil : ROs K H φ [] []
  | cons {o : O} {os : List O} {a : Addr} {as : List Addr} (h : RO P w K H φ o a) (t : ROs K H φ os as) : ROs K H φ (o :: os) (a :: as)

/-- the store lies in the heap -/
structure RS (K : PySem.W.Frag) (H : Hp) (φ : List Addr) (st : Store) : Prop where
  nd : φ.Nodup
  os : ROs P w K H φ st φ

/-- the slots -/
structure RE (K : PySem.W.Frag) (H : Hp) (φ : List Addr) (env : Env) (σ : L2.St) : Prop where
  len : env.length = σ.length
  get : ∀ (i : Nat) (d : D), env[i]? = some (some d) → ∃ v, σ[i]? = some (some v) ∧ RD K H φ d v

/-- what a step keeps -/
structure Ext (H : Hp) (φ : List Addr) (H' : Hp) (φ' : List Addr) : Prop where
  pre : ∃ ψ, φ' = φ ++ ψ ∧ ∀ a ∈ ψ, H a = none
  tup : ∀ a xs, H a = some (.tup xs) → H' a = some (.tup xs)
  frz : ∀ a o u, H a = some (.frz o u) → H' a = some (.frz o u)
  keep : ∀ a o, H a = some o → a ∉ φ → H' a = some o
  trk : ∀ a o, H a = some o → ∃ o', H' a = some o'

theorem Ext.refl {H : Hp} {φ : List Addr} : Ext H φ H φ := ⟨⟨[], by simp, by simp⟩, fun _ _ h => h, fun _ _ _ h => h, fun _ _ h _ => h, fun _ o h => ⟨o, h⟩⟩
theorem Ext.none_of {H H' : Hp} {φ φ' : List Addr} (e : Ext H φ H' φ') {a : Addr} (h : H' a = none) : H a = none := by
  cases q : H a with
  | none => rfl
  | some o => obtain ⟨o', z⟩ := e.trk a o q; rw [h] at z; cases z
theorem Ext.notin {H H' : Hp} {φ φ' : List Addr} (e : Ext H φ H' φ') {a : Addr} {o : HO} (h : H a = some o) (n : a ∉ φ) : a ∉ φ' := by
  obtain ⟨ψ, rfl, q⟩ := e.pre
  intro z
  rcases List.mem_append.mp z with z | z
  · exact n z
  · rw [q a z] at h; cases h
theorem Ext.trans {H H1 H2 : Hp} {φ φ1 φ2 : List Addr} (a : Ext H φ H1 φ1) (b : Ext H1 φ1 H2 φ2) : Ext H φ H2 φ2 where
  pre := by
    obtain ⟨ψ, rfl, q⟩ := a.pre
    obtain ⟨χ, rfl, r⟩ := b.pre
    refine ⟨ψ ++ χ, by simp, fun c hc => ?_⟩
    rcases List.mem_append.mp hc with z | z
    · exact q c z
    · exact a.none_of (r c z)
  tup := fun c xs h => b.tup c xs (a.tup c xs h)
  frz := fun c o u h => b.frz c o u (a.frz c o u h)
  keep := fun c o h n => b.keep c o (a.keep c o h n) (a.notin h n)
  trk := fun c o h => by
    obtain ⟨o1, h1⟩ := a.trk c o h
    exact b.trk c o1 h1
theorem Ext.get {H H' : Hp} {φ φ' : List Addr} (e : Ext H φ H' φ') {n : Nat} {a : Addr} (h : φ[n]? = some a) : φ'[n]? = some a := by
  obtain ⟨ψ, rfl, _⟩ := e.pre
  rw [List.getElem?_append_left (List.getElem?_eq_some_iff.mp h).1]
  exact h
theorem Ext.fzL {K : PySem.W.Frag} {H H' : Hp} {φ φ' : List Addr} (e : Ext H φ H' φ') {a : Addr} {vs : List V} (h : FzL K H a vs) : FzL K H' a vs := by
  rcases h with ⟨o, h⟩ | h
  · exact .inl ⟨o, e.frz _ _ _ h⟩
  · exact .inr h

section
variable {P : Program} {w : World} {K : PySem.W.Frag} {H H' : Hp} {φ φ' : List Addr}
/-- values stand where tuples stand -/
structure Mono (K : PySem.W.Frag) (H : Hp) (φ : List Addr) (H' : Hp) (φ' : List Addr) : Prop where
  sq : ∀ a vs, H a = some (.tup vs) → H' a = some (.tup vs)
  fz : ∀ a vs, FzL K H a vs → FzL K H' a vs
  get : ∀ (n : Nat) (a : Addr), φ[n]? = some a → φ'[n]? = some a
theorem Ext.mono (e : Ext H φ H' φ') : Mono K H φ H' φ' := ⟨fun a vs h => e.tup a vs h, fun _ _ h => e.fzL h, fun _ _ h => e.get h⟩
mutual
theorem RD.mono (m : Mono K H φ H' φ') : ∀ {d : D} {v : V}, RD K H φ d v → RD K H' φ' d v
  | _, _, .non => .non
  | _, _, .bl b => .bl b
  | _, _, .int i => .int i
  | _, _, .str x => .str x
  | _, _, .tup h r => .tup (m.sq _ _ h) (RDs.mono m r)
  | _, _, .ref h => .ref (m.get _ _ h)
  | _, _, .lz h r => .lz (m.fz _ _ h) (RDs.mono m r)
theorem RDs.mono (m : Mono K H φ H' φ') : ∀ {ds : List D} {vs : List V}, RDs K H φ ds vs → RDs K H' φ' ds vs
  | _, _, .nil => .nil
  | _, _, .cons h t => .cons (RD.mono m h) (RDs.mono m t)
end
theorem RKs.mono {κ : Type} (m : Mono K H φ H' φ') : ∀ {ds : List (κ × D)} {vs : List (κ × V)}, RKs K H φ ds vs → RKs K H' φ' ds vs
  | _, _, .nil => .nil
  | _, _, .cons h t => .cons (h.mono m) (RKs.mono m t)
theorem RE.mono {env : Env} {σ : L2.St} (m : Mono K H φ H' φ') (r : RE K H φ env σ) : RE K H' φ' env σ :=
  ⟨r.len, fun i d h => let ⟨v, e, q⟩ := r.get i d h; ⟨v, e, q.mono m⟩⟩
/-- an object that stays where it is -/
theorem RO.stay {o : O} {a : Addr} (m : Mono K H φ H' φ') (s : ∀ ho, H a = some ho → H' a = some ho) (r : RO P w K H φ o a) : RO P w K H' φ' o a := by
  cases r with
  | lst h r => exact .lst (s _ h) (r.mono m)
  | dK h r => exact .dK (s _ h) (r.mono m)
  | dT h r => exact .dT (s _ h) (r.mono m)
  | sT h t e => exact .sT (s _ h) (fun p hp => m.sq _ _ (t p hp)) e
  | sI h q e nd => exact .sI (s _ h) q e nd
theorem RO.there {o : O} {a : Addr} (r : RO P w K H φ o a) : ∃ ho, H a = some ho := by
  cases r with
  | lst h r => exact ⟨_, h⟩
  | dK h r => exact ⟨_, h⟩
  | dT h r => exact ⟨_, h⟩
  | sT h t e => exact ⟨_, h⟩
  | sI h q e nd => exact ⟨_, h⟩
/-- a store's object is no tuple and nothing frozen -/
theorem RO.notT {o : O} {a : Addr} (r : RO P w K H φ o a) (xs : List V) : H a ≠ some (.tup xs) := by
  cases r with
  | lst h r => rw [h]; intro z; cases z
  | dK h r => rw [h]; intro z; cases z
  | dT h r => rw [h]; intro z; cases z
  | sT h t e => rw [h]; intro z; cases z
  | sI h q e nd => rw [h]; intro z; cases z
theorem RO.notF {o : O} {a : Addr} (r : RO P w K H φ o a) (ob : Obj) (u : HO) : H a ≠ some (.frz ob u) := by
  cases r with
  | lst h r => rw [h]; intro z; cases z
  | dK h r => rw [h]; intro z; cases z
  | dT h r => rw [h]; intro z; cases z
  | sT h t e => rw [h]; intro z; cases z
  | sI h q e nd => rw [h]; intro z; cases z
theorem ROs.stay : ∀ {os : List O} {as : List Addr}, Mono K H φ H' φ' → (∀ a ∈ as, ∀ ho, H a = some ho → H' a = some ho) → ROs P w K H φ os as → ROs P w K H' φ' os as
  | _, _, _, _, .nil => .nil
  | _, _, m, s, .cons h t => .cons (h.stay m (s _ (by simp))) (ROs.stay m (fun a ha => s a (List.mem_cons_of_mem _ ha)) t)
theorem ROs.length : ∀ {os : List O} {as : List Addr}, ROs P w K H φ os as → os.length = as.length
  | _, _, .nil => rfl
  | _, _, .cons _ t => congrArg (· + 1) (ROs.length t)
theorem ROs.get : ∀ {os : List O} {as : List Addr} {n : Nat} {a : Addr}, ROs P w K H φ os as → as[n]? = some a → ∃ o, os[n]? = some o ∧ RO P w K H φ o a
  | _, _, _, _, .nil, h => by simp at h
  | _, _, 0, _, .cons h _, e => by simp at e; subst e; exact ⟨_, rfl, h⟩
  | _, _, n + 1, _, .cons _ t, e => by
    obtain ⟨o, h1, h2⟩ := ROs.get (n := n) t (by simpa using e)
    exact ⟨o, by simpa using h1, h2⟩
theorem ROs.get' : ∀ {os : List O} {as : List Addr} {n : Nat} {o : O}, ROs P w K H φ os as → os[n]? = some o → ∃ a, as[n]? = some a ∧ RO P w K H φ o a
  | _, _, _, _, .nil, h => by simp at h
  | _, _, 0, _, .cons h _, e => by simp at e; subst e; exact ⟨_, rfl, h⟩
  | _, _, n + 1, _, .cons _ t, e => by
    obtain ⟨o, h1, h2⟩ := ROs.get' (n := n) t (by simpa using e)
    exact ⟨o, by simpa using h1, h2⟩
theorem ROs.append : ∀ {os ps : List O} {as bs : List Addr}, ROs P w K H φ os as → ROs P w K H φ ps bs → ROs P w K H φ (os ++ ps) (as ++ bs)
  | _, _, _, _, .nil, s => s
  | _, _, _, _, .cons h t, s => .cons h (ROs.append t s)
theorem ROs.take : ∀ {os : List O} {as : List Addr} (n : Nat), ROs P w K H φ os as → ROs P w K H φ (os.take n) (as.take n)
  | _, _, 0, _ => by simp; exact .nil
  | _, _, _ + 1, .nil => .nil
  | _, _, n + 1, .cons h t => .cons h (ROs.take n t)
theorem RDs.length : ∀ {ds : List D} {vs : List V}, RDs K H φ ds vs → ds.length = vs.length
  | _, _, .nil => rfl
  | _, _, .cons _ t => congrArg (· + 1) (RDs.length t)
theorem RDs.get : ∀ {ds : List D} {vs : List V} {i : Nat} {d : D}, RDs K H φ ds vs → ds[i]? = some d → ∃ v, vs[i]? = some v ∧ RD K H φ d v
  | _, _, _, _, .nil, h => by simp at h
  | _, _, 0, _, .cons h _, e => by simp at e; subst e; exact ⟨_, rfl, h⟩
  | _, _, n + 1, _, .cons _ t, e => by
    obtain ⟨o, h1, h2⟩ := RDs.get (i := n) t (by simpa using e)
    exact ⟨o, by simpa using h1, h2⟩
theorem RDs.get' : ∀ {ds : List D} {vs : List V} {i : Nat} {v : V}, RDs K H φ ds vs → vs[i]? = some v → ∃ d, ds[i]? = some d ∧ RD K H φ d v
  | _, _, _, _, .nil, h => by simp at h
  | _, _, 0, _, .cons h _, e => by simp at e; subst e; exact ⟨_, rfl, h⟩
  | _, _, n + 1, _, .cons _ t, e => by
    obtain ⟨o, h1, h2⟩ := RDs.get' (i := n) t (by simpa using e)
    exact ⟨o, by simpa using h1, h2⟩
theorem RDs.append : ∀ {ds es : List D} {vs ws : List V}, RDs K H φ ds vs → RDs K H φ es ws → RDs K H φ (ds ++ es) (vs ++ ws)
  | _, _, _, _, .nil, s => s
  | _, _, _, _, .cons h t, s => .cons h (RDs.append t s)
theorem RDs.take : ∀ {ds : List D} {vs : List V} (n : Nat), RDs K H φ ds vs → RDs K H φ (ds.take n) (vs.take n)
  | _, _, 0, _ => by simp; exact .nil
  | _, _, _ + 1, .nil => .nil
  | _, _, n + 1, .cons h t => .cons h (RDs.take n t)
theorem RDs.drop : ∀ {ds : List D} {vs : List V} (n : Nat), RDs K H φ ds vs → RDs K H φ (ds.drop n) (vs.drop n)
  | _, _, 0, r => r
  | _, _, _ + 1, .nil => .nil
  | _, _, n + 1, .cons _ t => RDs.drop n t
theorem RDs.set {d : D} {v : V} (r : RD K H φ d v) : ∀ {ds : List D} {vs : List V} (i : Nat), RDs K H φ ds vs → RDs K H φ (ds.set i d) (vs.set i v)
  | _, _, _, .nil => .nil
  | _, _, 0, .cons _ t => .cons r t
  | _, _, i + 1, .cons h t => .cons h (RDs.set r i t)
theorem RDs.reverse : ∀ {ds : List D} {vs : List V}, RDs K H φ ds vs → RDs K H φ ds.reverse vs.reverse
  | _, _, .nil => .nil
  | _, _, .cons h t => by rw [List.reverse_cons, List.reverse_cons]; exact (RDs.reverse t).append (.cons h .nil)
theorem RDs.eraseIdx : ∀ {ds : List D} {vs : List V} (n : Nat), RDs K H φ ds vs → RDs K H φ (ds.eraseIdx n) (vs.eraseIdx n)
  | _, _, _, .nil => .nil
  | _, _, 0, .cons _ t => t
  | _, _, n + 1, .cons h t => .cons h (RDs.eraseIdx n t)
theorem RDs.dropLast {ds : List D} {vs : List V} (r : RDs K H φ ds vs) : RDs K H φ ds.dropLast vs.dropLast := by
  rw [List.dropLast_eq_take, List.dropLast_eq_take, r.length]; exact r.take _

/-- the tracked object at a store's address -/
theorem RS.at_ {st : Store} (r : RS P w K H φ st) {n : Nat} {o : O} (h : st[n]? = some o) : ∃ a, φ[n]? = some a ∧ RO P w K H φ o a := r.os.get' h
theorem RS.of_ref {st : Store} (r : RS P w K H φ st) {n : Nat} {v : V} (h : RD K H φ (.ref n) v) : ∃ a o, v = .ref a ∧ φ[n]? = some a ∧ st[n]? = some o ∧ RO P w K H φ o a := by
  cases h with
  | ref h => obtain ⟨o, e, q⟩ := r.os.get h; exact ⟨_, o, rfl, h, e, q⟩
theorem RS.len {st : Store} (r : RS P w K H φ st) : st.length = φ.length := r.os.length
/-- a step that leaves the store's objects -/
theorem RS.keep {st : Store} (r : RS P w K H φ st) (m : Mono K H φ H' φ) (s : ∀ a ∈ φ, ∀ ho, H a = some ho → H' a = some ho) : RS P w K H' φ st := ⟨r.nd, r.os.stay m s⟩
theorem RS.mem {st : Store} (r : RS P w K H φ st) {a : Addr} (h : a ∈ φ) : ∃ (n : Nat) (o : O), φ[n]? = some a ∧ st[n]? = some o ∧ RO P w K H φ o a := by
  obtain ⟨i, hi, e⟩ := List.getElem_of_mem h
  have e' : φ[i]? = some a := by rw [List.getElem?_eq_getElem hi, e]
  obtain ⟨o, q, z⟩ := r.os.get e'
  exact ⟨i, o, e', q, z⟩
theorem RS.notin {st : Store} (r : RS P w K H φ st) {a : Addr} (h : H a = none) : a ∉ φ := fun m => by
  obtain ⟨_, _, _, _, z⟩ := r.mem m
  obtain ⟨ho, q⟩ := z.there
  rw [h] at q; cases q
end

/-- a new address -/
theorem Ext.new {H : Hp} {φ : List Addr} {p : Addr} {o : HO} (h : H p = none) : Ext H φ (upd H p o) φ :=
  ⟨⟨[], by simp, by simp⟩, fun a xs q => by rw [upd_ne (ne_of_none q h)]; exact q, fun a o u q => by rw [upd_ne (ne_of_none q h)]; exact q, fun a o q _ => by rw [upd_ne (ne_of_none q h)]; exact q, fun a o q => ⟨o, by rw [upd_ne (ne_of_none q h)]; exact q⟩⟩
end Fx

set_option Elab.async false
set_option linter.all false
set_option maxRecDepth 100000
set_option maxHeartbeats 4000000
set_option autoImplicit false
/-! Fx, part B: readings from functions; expressions. -/
namespace Fx
open PySem PySem.Spec PyProof.Rows L2

/-- the program, the world, the written part, the module's names -/
structure Md where
  P : Program
  w : World
  K : PySem.W.Frag
  mg : Str → Option Value
abbrev _root_.L2.Cx.md (X : Cx) : Md := ⟨X.prog, X.w, X.K, X.mg⟩

/-- a result's value -/
def RR (P : Program) (w : World) (K : PySem.W.Frag) (H0 H : Hp) (φ : List Addr) : R → V → Prop
  | .v d, v => RD K H φ d v
  | .o x, v => ∃ a, v = .ref a ∧ RO P w K H φ x a ∧ a ∉ φ ∧ H0 a = none
/-- an exception -/
def RX (mg : Str → Option Value) (K : PySem.W.Frag) (H : Hp) (φ : List Addr) (e : Ex) (c : Value) (d : Option Addr) : Prop :=
  ∃ C, mg e.cls = some (.ref C) ∧ c = .ref C ∧ (e.fs = [] ∨ ∃ dx kvs, d = some dx ∧ H dx = some (.xd kvs) ∧ RKs K H φ e.fs kvs)

section
variable {P : Program} {w : World} {K : PySem.W.Frag} {H0 H H' : Hp} {φ φ' : List Addr}
theorem RR.mono {r : R} {v : V} (h : RR P w K H0 H φ r v) (e : Ext H φ H' φ') : RR P w K H0 H' φ' r v := by
  cases r with
  | v d => exact RD.mono e.mono h
  | o x =>
    obtain ⟨a, rfl, hx, n, z⟩ := h
    obtain ⟨ho, q⟩ := hx.there
    exact ⟨a, rfl, hx.stay e.mono (fun u hu => e.keep a u hu n), e.notin q n, z⟩
theorem RR.from_ {H1 : Hp} {φ0 φ1 : List Addr} {r : R} {v : V} (h : RR P w K H1 H φ r v) (e : Ext H0 φ0 H1 φ1) : RR P w K H0 H φ r v := by
  cases r with
  | v d => exact h
  | o x =>
    obtain ⟨a, rfl, hx, n, z⟩ := h
    exact ⟨a, rfl, hx, n, e.none_of z⟩
end

/-- what is wanted behind a step that gives o -/
def Post {α : Type} (M : Md) (W : WX) (H : Hp) (φ : List Addr) (σ : L2.St) (o : Out α) (S : α → Hp → List Addr → Store → Prop) : Prop :=
  match o with
  | .ok a st' => ∀ H' φ', Ext H φ H' φ' → RS M.P M.w M.K H' φ' st' → S a H' φ' st'
  | .exc e st' => ∀ H' φ' c d, Ext H φ H' φ' → RS M.P M.w M.K H' φ' st' → RX M.mg M.K H' φ' e c d → W c d σ H'
  | .stuck => False
section
variable {α β : Type} {M : Md} {W : WX} {H H1 : Hp} {φ φ1 : List Addr} {σ : L2.St} {o : Out α} {S S' : α → Hp → List Addr → Store → Prop}
theorem Post.rebase (h : Post M W H φ σ o S) (e : Ext H φ H1 φ1) : Post M W H1 φ1 σ o S := by
  cases o with
  | ok a st => exact fun H' φ' e' s => h H' φ' (e.trans e') s
  | exc x st => exact fun H' φ' c d e' s r => h H' φ' c d (e.trans e') s r
  | stuck => exact h
theorem Post.mono (h : Post M W H φ σ o S) (m : ∀ a H' φ' st', Ext H φ H' φ' → RS M.P M.w M.K H' φ' st' → S a H' φ' st' → S' a H' φ' st') : Post M W H φ σ o S' := by
  cases o with
  | ok a st => exact fun H' φ' e s => m a H' φ' st e s (h H' φ' e s)
  | exc x st => exact h
  | stuck => exact h
theorem Post.bind {k : α → Store → Out β} {S : β → Hp → List Addr → Store → Prop} (h : Post M W H φ σ (o.bind k) S) : Post M W H φ σ o (fun a H1 φ1 st1 => Post M W H1 φ1 σ (k a st1) S) := by
  cases o with
  | ok a st => exact fun H' φ' e _ => Post.rebase (o := k a st) h e
  | exc x st => exact h
  | stuck => exact h
/-- the base as it was -/
theorem Post.bind0 {k : α → Store → Out β} {S : β → Hp → List Addr → Store → Prop} (h : Post M W H φ σ (o.bind k) S) : Post M W H φ σ o (fun a _ _ st1 => Post M W H φ σ (k a st1) S) := by
  cases o with
  | ok a st => exact fun H' φ' e _ => h
  | exc x st => exact h
  | stuck => exact h
end
/-- .. of an expression -/
def PostE (M : Md) (W : WX) (H : Hp) (φ : List Addr) (σ : L2.St) (o : Out R) (Q : VK) : Prop :=
  Post M W H φ σ o fun r H' φ' _ => ∀ v, RR M.P M.w M.K H H' φ' r v → Q v H'
def PostB (M : Md) (W : WX) (H : Hp) (φ : List Addr) (σ : L2.St) (o : Out Bool) (Q : Bool → Hp → Prop) : Prop := Post M W H φ σ o fun b H' _ _ => Q b H'
def PostA (M : Md) (W : WX) (H : Hp) (φ : List Addr) (σ : L2.St) (o : Out (List D)) (Q : List V → Hp → Prop) : Prop :=
  Post M W H φ σ o fun ds H' φ' _ => ∀ vs, RDs M.K H' φ' ds vs → Q vs H'

section
variable {α : Type} {M : Md} {W : WX} {H H1 : Hp} {φ φ1 : List Addr} {σ : L2.St}
theorem PostE.rebase {o : Out R} {Q : VK} (h : PostE M W H φ σ o Q) (e : Ext H φ H1 φ1) : PostE M W H1 φ1 σ o Q :=
  (Post.rebase h e).mono fun _ _ _ _ _ _ q v r => q v (r.from_ e)
theorem PostE.bind {o : Out α} {k : α → Store → Out R} {Q : VK} (h : PostE M W H φ σ (o.bind k) Q) : Post M W H φ σ o (fun a H1 φ1 st1 => PostE M W H1 φ1 σ (k a st1) Q) := by
  cases o with
  | ok a st => exact fun H' φ' e _ => PostE.rebase (o := k a st) h e
  | exc x st => exact h
  | stuck => exact h
theorem PostE.bind0 {o : Out α} {k : α → Store → Out R} {Q : VK} (h : PostE M W H φ σ (o.bind k) Q) : Post M W H φ σ o (fun a _ _ st1 => PostE M W H φ σ (k a st1) Q) := Post.bind0 h
theorem PostB.bind {o : Out α} {k : α → Store → Out Bool} {Q : Bool → Hp → Prop} (h : PostB M W H φ σ (o.bind k) Q) : Post M W H φ σ o (fun a H1 φ1 st1 => PostB M W H1 φ1 σ (k a st1) Q) := Post.bind h
theorem PostA.bind {o : Out α} {k : α → Store → Out (List D)} {Q : List V → Hp → Prop} (h : PostA M W H φ σ (o.bind k) Q) : Post M W H φ σ o (fun a H1 φ1 st1 => PostA M W H1 φ1 σ (k a st1) Q) := Post.bind h
/-- a value, the heap as it is -/
theorem PostE.val {r : R} {st : Store} {Q : VK} {v : V} (h : PostE M W H φ σ (.ok r st) Q) (s : RS M.P M.w M.K H φ st) (q : RR M.P M.w M.K H H φ r v) : Q v H := h H φ Ext.refl s v q
/-- a new object -/
theorem RS.new {P : Program} {w : World} {K : PySem.W.Frag} {st : Store} {p : Addr} {ho : HO} (s : RS P w K H φ st) (h : H p = none) : RS P w K (upd H p ho) φ st :=
  s.keep (Ext.new h).mono (fun a _ u hu => by rw [upd_ne (ne_of_none hu h)]; exact hu)
end
end Fx

set_option Elab.async false
set_option linter.all false
set_option maxRecDepth 100000
set_option maxHeartbeats 4000000
set_option autoImplicit false
/-! Fx, part C: expressions. -/
namespace Fx
open PySem PySem.Spec PyProof.Rows L2

abbrev FE := Env → Store → Out R
abbrev FB := Env → Store → Out Bool
abbrev FA := Env → Store → Out (List D)

/-- the state lies in the heap -/
structure At (M : Md) (σ : L2.St) (H : Hp) (env : Env) (st : Store) (φ : List Addr) : Prop where
  re : RE M.K H φ env σ
  rs : RS M.P M.w M.K H φ st
def tE (M : Md) (W : WX) (f : FE) : TE := fun σ H Q => ∃ env st φ, At M σ H env st φ ∧ PostE M W H φ σ (f env st) Q
def tB (M : Md) (W : WX) (f : FB) : TT := fun σ H Q => ∃ env st φ, At M σ H env st φ ∧ PostB M W H φ σ (f env st) Q
def tA (M : Md) (W : WX) (f : FA) : TA := fun σ H Q => ∃ env st φ, At M σ H env st φ ∧ PostA M W H φ σ (f env st) Q
/-- e does what f says -/
abbrev SE (X : Cx) (W : WX) (e : Expr) (f : FE) : Prop := PE X e (tE X.md W f)
abbrev SB (X : Cx) (W : WX) (e : Expr) (f : FB) : Prop := PT X e (tB X.md W f)
abbrev SBW (X : Cx) (W : WX) (e : Expr) (f : FB) : Prop := PW X e (tB X.md W f)
abbrev SA (X : Cx) (W : WX) (es : List Expr) (f : FA) : Prop := PA X es (tA X.md W f)

theorem pe_imp {X : Cx} {e : Expr} {t t' : TE} (h : PE X e t) (i : ∀ σ H Q, t' σ H Q → t σ H Q) : PE X e t' := ⟨fun pins s σ H Q I q => h.run pins s σ H Q I (i σ H Q q)⟩
theorem pt_imp {X : Cx} {e : Expr} {t t' : TT} (h : PT X e t) (i : ∀ σ H Q, t' σ H Q → t σ H Q) : PT X e t' := ⟨fun pins s σ H Q I q => h.run pins s σ H Q I (i σ H Q q)⟩
theorem pw_imp {X : Cx} {e : Expr} {t t' : TT} (h : PW X e t) (i : ∀ σ H Q, t' σ H Q → t σ H Q) : PW X e t' := ⟨fun wh pins s σ H Q I q => h.run wh pins s σ H Q I (i σ H Q q)⟩
theorem pa_imp {X : Cx} {e : List Expr} {t t' : TA} (h : PA X e t) (i : ∀ σ H Q, t' σ H Q → t σ H Q) : PA X e t' := ⟨fun pos pins s σ H Q I q => h.run pos pins s σ H Q I (i σ H Q q)⟩

section
variable {M : Md} {W : WX} {σ : L2.St} {H H1 : Hp} {env : Env} {st st1 : Store} {φ φ1 : List Addr}
theorem At.then (a : At M σ H env st φ) (e : Ext H φ H1 φ1) (s : RS M.P M.w M.K H1 φ1 st1) : At M σ H1 env st1 φ1 := ⟨a.re.mono e.mono, s⟩
/-- f, then k -/
theorem tE_seq {f : FE} {k : R → Store → Out R} {Q : VK} {G : V → Hp → Prop} (a : At M σ H env st φ) (h : PostE M W H φ σ ((f env st).bind k) Q)
    (g : ∀ r st1 H1 φ1 v, Ext H φ H1 φ1 → At M σ H1 env st1 φ1 → RR M.P M.w M.K H H1 φ1 r v → PostE M W H1 φ1 σ (k r st1) Q → G v H1) : tE M W f σ H G :=
  ⟨env, st, φ, a, (PostE.bind h).mono fun r H1 φ1 st1 e s q v rr => g r st1 H1 φ1 v e (a.then e s) rr q⟩
theorem tA_seq {f : FA} {k : List D → Store → Out R} {Q : VK} {G : List V → Hp → Prop} (a : At M σ H env st φ) (h : PostE M W H φ σ ((f env st).bind k) Q)
    (g : ∀ ds st1 H1 φ1 vs, Ext H φ H1 φ1 → At M σ H1 env st1 φ1 → RDs M.K H1 φ1 ds vs → PostE M W H1 φ1 σ (k ds st1) Q → G vs H1) : tA M W f σ H G :=
  ⟨env, st, φ, a, (PostE.bind h).mono fun ds H1 φ1 st1 e s q vs rr => g ds st1 H1 φ1 vs e (a.then e s) rr q⟩
theorem tB_seq {f : FB} {k : Bool → Store → Out R} {Q : VK} {G : Bool → Hp → Prop} (a : At M σ H env st φ) (h : PostE M W H φ σ ((f env st).bind k) Q)
    (g : ∀ b st1 H1 φ1, Ext H φ H1 φ1 → At M σ H1 env st1 φ1 → PostE M W H1 φ1 σ (k b st1) Q → G b H1) : tB M W f σ H G :=
  ⟨env, st, φ, a, (PostE.bind h).mono fun b H1 φ1 st1 e s q => g b st1 H1 φ1 e (a.then e s) q⟩
end

/-! ### names, constants -/
def fName (i : Nat) : FE := fun env st => match env[i]? with
  | some (some d) => .ok (.v d) st
  | _ => .stuck
def fC (d : D) : FE := fun _ st => .ok (.v d) st
section
variable {X : Cx} {W : WX}
theorem se_name {i : Nat} {x : Str} {pos : Pos} (hN : X.N[i]? = some x) (hv : Vis X.env.scope x) (hd : (x == ("__debug__" : Str)) = false := by decide) (hcd : (x == ("__classdict__" : Str)) = false := by decide) : SE X W (.Name x pos) (fName i) := by
  refine pe_imp (pe_var hN hv hd hcd) fun σ H Q ⟨env, st, φ, a, h⟩ => ?_
  unfold fName at h
  split at h
  · rename_i d e
    obtain ⟨v, e1, r⟩ := a.re.get i d e
    exact ⟨v, e1, h.val a.rs r⟩
  · exact h.elim
theorem se_const {e : Expr} {d : D} {v : V} (h : PE X e (tC v)) (r : ∀ H φ, RD X.K H φ d v) : SE X W e (fC d) :=
  pe_imp h fun σ H Q ⟨_, st, φ, a, h⟩ => PostE.val (r := .v d) h a.rs (r H φ)
theorem se_int {i : Int} {j : Nat} {pos : Pos} : SE X W (.Constant (.int i) j pos) (fC (.int i)) := se_const pe_int fun _ _ => .int i
theorem se_bl {b : Bool} {j : Nat} {pos : Pos} : SE X W (.Constant (.bool b) j pos) (fC (.bl b)) := se_const pe_bl fun _ _ => .bl b
theorem se_non {j : Nat} {pos : Pos} : SE X W (.Constant .none j pos) (fC .non) := se_const pe_non fun _ _ => .non
theorem se_str {x : Str} {j : Nat} {pos : Pos} : SE X W (.Constant (.str x) j pos) (fC (.str x)) := se_const pe_str fun _ _ => .str x
/-- a module's int -/
theorem se_glob {x : Str} {i : Int} {u : Value} {pos : Pos} (hg : Gl X x) (hm : X.mg x = some u) (r : RelV (.int i) u) (hd : (x == ("__debug__" : Str)) = false := by decide) : SE X W (.Name x pos) (fC (.int i)) := se_const (pe_glob hg hm r hd) fun _ _ => .int i
end

/-! ### argument lists; new objects are given a number -/
def alloc (r : R) (st : Store) : D × Store := match r with
  | .v d => (d, st)
  | .o x => (.ref st.length, st ++ [x])
@[simp] theorem alloc_v (d : D) (st : Store) : alloc (.v d) st = (d, st) := rfl
@[simp] theorem alloc_o (x : O) (st : Store) : alloc (.o x) st = (.ref st.length, st ++ [x]) := rfl
def fNil : FA := fun _ st => .ok [] st
def fCons (f : FE) (g : FA) : FA := fun env st => (f env st).bind fun r st1 => (g env (alloc r st1).2).bind fun ds st2 => .ok ((alloc r st1).1 :: ds) st2

theorem alloc_ok {P : Program} {w : World} {K : PySem.W.Frag} {H0 H : Hp} {φ0 φ : List Addr} {r : R} {v : V} {st : Store} (s : RS P w K H φ st) (h : RR P w K H0 H φ r v) (e : Ext H0 φ0 H φ) :
    ∃ φ', RS P w K H φ' (alloc r st).2 ∧ RD K H φ' (alloc r st).1 v ∧ Ext H0 φ0 H φ' ∧ Mono K H φ H φ' := by
  cases r with
  | v d => exact ⟨φ, s, h, e, ⟨fun _ _ h => h, fun _ _ h => h, fun _ _ h => h⟩⟩
  | o x =>
    obtain ⟨a, rfl, hx, n, z⟩ := h
    have m : Mono K H φ H (φ ++ [a]) := ⟨fun _ _ h => h, fun _ _ h => h, fun i b h => by rw [List.getElem?_append_left (List.getElem?_eq_some_iff.mp h).1]; exact h⟩
    refine ⟨φ ++ [a], ⟨?_, (s.os.stay m fun _ _ _ q => q).append (.cons (hx.stay m fun _ q => q) .nil)⟩, .ref ?_, ?_, m⟩
    · refine List.nodup_append.mpr ⟨s.nd, by simp, fun b hb c hc q => ?_⟩
      have : c = a := by simpa using hc
      subst this; subst q; exact n hb
    · have q : st.length = φ.length := s.len
      show (φ ++ [a])[st.length]? = some a
      rw [q]; simp
    · obtain ⟨ψ, rfl, q⟩ := e.pre
      refine ⟨⟨ψ ++ [a], by simp, fun b hb => ?_⟩, e.tup, e.frz, e.keep, e.trk⟩
      rcases List.mem_append.mp hb with y | y
      · exact q b y
      · have : b = a := by simpa using y
        subst this; exact z
section
variable {X : Cx} {W : WX} {e : Expr} {es : List Expr} {f : FE} {g : FA} {pos : Pos}
theorem sa_nil : SA X W [] fNil := pa_imp pa_nil fun σ H Q ⟨_, st, φ, a, h⟩ => h H φ Ext.refl a.rs [] .nil
theorem sa_cons (he : SE X W e f) (hr : SA X W es g) (hs : starEach (e :: es) X.env = (false, eval e X.env) :: starEach es X.env := by rfl) : SA X W (e :: es) (fCons f g) := by
  refine pa_imp (pa_cons he hr hs) fun σ H Q ⟨env, st, φ, a, h⟩ => ?_
  refine ⟨env, st, φ, a, (Post.bind0 h).mono fun r H1 φ1 st1 e1 s1 q1 v rv => ?_⟩
  obtain ⟨φ2, s2, r2, e2, m2⟩ := alloc_ok s1 rv e1
  have a2 : At X.md σ H1 env (alloc r st1).2 φ2 := ⟨a.re.mono e2.mono, s2⟩
  have q2 := Post.rebase q1 e2
  refine ⟨env, _, φ2, a2, (PostA.bind q2).mono fun ds H3 φ3 st3 e3 s3 q3 vs rvs => ?_⟩
  exact q3 H3 φ3 Ext.refl s3 (v :: vs) (.cons (r2.mono e3.mono) rvs)
end
end Fx

set_option Elab.async false
set_option linter.all false
set_option maxRecDepth 100000
set_option maxHeartbeats 4000000
set_option autoImplicit false
/-! Fx, part D: displays, operators, comparisons, tests. -/
namespace Fx
open PySem PySem.Spec PyProof.Rows L2

theorem line_of {n : Nat} (h : n ≤ 1000000) : n ≤ sizeLine := by rw [sizeLine_eq]; omega
theorem line_of' {n : Nat} (h : n < 1000000) : n < sizeLine := by rw [sizeLine_eq]; omega

/-! ### new objects in a reading -/
section
variable {M : Md} {W : WX} {σ : L2.St} {H : Hp} {φ : List Addr} {st : Store} {Q : VK}
theorem new_tup {xs : List D} {vs : List V} {p : Addr} (s : RS M.P M.w M.K H φ st) (r : RDs M.K H φ xs vs) (h : PostE M W H φ σ (.ok (.v (.tup xs)) st) Q) (hp : H p = none) : Q (.ref p) (upd H p (.tup vs)) :=
  h _ _ (Ext.new hp) (s.new hp) _ (RD.tup upd_same (r.mono (Ext.new hp).mono))
theorem new_lst {xs : List D} {vs : List V} {p : Addr} (s : RS M.P M.w M.K H φ st) (r : RDs M.K H φ xs vs) (h : PostE M W H φ σ (.ok (.o (.lst xs)) st) Q) (hp : H p = none) : Q (.ref p) (upd H p (.lst vs)) :=
  h _ _ (Ext.new hp) (s.new hp) _ ⟨p, rfl, .lst upd_same (r.mono (Ext.new hp).mono), s.notin hp, hp⟩
theorem of_val {d : D} {v : V} (s : RS M.P M.w M.K H φ st) (r : RD M.K H φ d v) (h : PostE M W H φ σ (.ok (.v d) st) Q) : Q v H := PostE.val (r := .v d) h s r
end

/-! ### displays -/
def fTup (g : FA) : FE := fun env st => (g env st).bind fun ds st1 => if ds.length ≤ 1000000 then .ok (.v (.tup ds)) st1 else .stuck
def fLst (g : FA) : FE := fun env st => (g env st).bind fun ds st1 => if ds.length ≤ 1000000 then .ok (.o (.lst ds)) st1 else .stuck
def fDK : FE := fun _ st => .ok (.o (.dK [])) st
def fDT : FE := fun _ st => .ok (.o (.dT [])) st
section
variable {X : Cx} {W : WX} {es : List Expr} {g : FA} {pos : Pos}
theorem se_tup {k : Nat} (h : SA X W es g) : SE X W (.Tuple es k pos) (fTup g) := by
  refine pe_imp (pe_tup h) fun σ H Q ⟨env, st, φ, a, q⟩ => ?_
  refine tA_seq a q fun ds st1 H1 φ1 vs e1 a1 rv q1 => ?_
  split at q1
  · rename_i hl
    exact ⟨by rw [← rv.length]; exact line_of hl, fun p hp => new_tup a1.rs rv q1 hp⟩
  · exact q1.elim
theorem se_lst (h : SA X W es g) : SE X W (.List es pos) (fLst g) := by
  refine pe_imp (pe_lst h) fun σ H Q ⟨env, st, φ, a, q⟩ => ?_
  refine tA_seq a q fun ds st1 H1 φ1 vs e1 a1 rv q1 => ?_
  split at q1
  · rename_i hl
    exact ⟨by rw [← rv.length]; exact line_of hl, fun p hp => new_lst a1.rs rv q1 hp⟩
  · exact q1.elim
theorem se_dK : SE X W (.Dict [] [] pos) fDK := by
  refine pe_imp pe_dnewK fun σ H Q ⟨env, st, φ, a, q⟩ => fun p hp => ?_
  exact q _ _ (Ext.new hp) (a.rs.new hp) _ ⟨p, rfl, .dK upd_same .nil, a.rs.notin hp, hp⟩
theorem se_dT : SE X W (.Dict [] [] pos) fDT := by
  refine pe_imp pe_dnewT fun σ H Q ⟨env, st, φ, a, q⟩ => fun p hp => ?_
  exact q _ _ (Ext.new hp) (a.rs.new hp) _ ⟨p, rfl, .dT upd_same .nil, a.rs.notin hp, hp⟩
end

/-! ### what lies behind a value -/
def seqL (st : Store) : R → Option (List D)
  | .o (.lst xs) => some xs
  | .v (.ref n) => match st[n]? with
    | some (.lst xs) => some xs
    | _ => none
  | .v (.lz xs) => some xs
  | _ => none
/-- a list that can be written -/
def seqM (st : Store) : R → Option (List D)
  | .o (.lst xs) => some xs
  | .v (.ref n) => match st[n]? with
    | some (.lst xs) => some xs
    | _ => none
  | _ => none
@[simp] theorem seqL_o (st : Store) (xs : List D) : seqL st (.o (.lst xs)) = some xs := rfl
@[simp] theorem seqM_o (st : Store) (xs : List D) : seqM st (.o (.lst xs)) = some xs := rfl
@[simp] theorem seqL_lz (st : Store) (xs : List D) : seqL st (.v (.lz xs)) = some xs := rfl
@[simp] theorem seqL_tup (st : Store) (xs : List D) : seqL st (.v (.tup xs)) = none := rfl
@[simp] theorem seqM_tup (st : Store) (xs : List D) : seqM st (.v (.tup xs)) = none := rfl
@[simp] theorem seqM_str (st : Store) (xs : Str) : seqM st (.v (.str xs)) = none := rfl
@[simp] theorem seqL_str (st : Store) (xs : Str) : seqL st (.v (.str xs)) = none := rfl
theorem seqL_ref {st : Store} {n : Nat} {xs : List D} (h : st[n]? = some (.lst xs)) : seqL st (.v (.ref n)) = some xs := by simp [seqL, h]
theorem seqM_ref {st : Store} {n : Nat} {xs : List D} (h : st[n]? = some (.lst xs)) : seqM st (.v (.ref n)) = some xs := by simp [seqM, h]
section
variable {P : Program} {w : World} {K : PySem.W.Frag} {H0 H : Hp} {φ : List Addr} {st : Store} {r : R} {v : V} {xs : List D}
theorem seqM_ok (s : RS P w K H φ st) (h : RR P w K H0 H φ r v) (e : seqM st r = some xs) : ∃ a vs, v = .ref a ∧ H a = some (.lst vs) ∧ RDs K H φ xs vs := by
  cases r with
  | o x =>
    obtain ⟨a, rfl, hx, _, _⟩ := h
    cases hx with
    | lst q t => cases e; exact ⟨a, _, rfl, q, t⟩
    | _ => cases e
  | v d =>
    cases d with
    | ref n =>
      obtain ⟨a, o, rfl, h1, h2, h3⟩ := s.of_ref h
      simp only [seqM, h2] at e
      cases h3 with
      | lst q t => cases e; exact ⟨a, _, rfl, q, t⟩
      | _ => cases e
    | _ => cases e
theorem seqL_ok (s : RS P w K H φ st) (h : RR P w K H0 H φ r v) (e : seqL st r = some xs) : ∃ a vs, v = .ref a ∧ SqL K H a vs ∧ RDs K H φ xs vs := by
  cases r with
  | o x =>
    obtain ⟨a, vs, e1, e2, e3⟩ := seqM_ok s h (by cases x <;> first | exact e | cases e)
    exact ⟨a, vs, e1, SqL.of e2, e3⟩
  | v d =>
    cases d with
    | ref n =>
      obtain ⟨a, vs, e1, e2, e3⟩ := seqM_ok (r := .v (.ref n)) s h e
      exact ⟨a, vs, e1, SqL.of e2, e3⟩
    | lz ys =>
      cases e
      cases h with
      | lz q t => exact ⟨_, _, rfl, q.sq, t⟩
    | _ => cases e
theorem tup_ok (h : RR P w K H0 H φ (.v (.tup xs)) v) : ∃ a vs, v = .ref a ∧ H a = some (.tup vs) ∧ RDs K H φ xs vs := by
  cases h with
  | tup q t => exact ⟨_, _, rfl, q, t⟩
theorem int_ok {i : Int} (h : RR P w K H0 H φ (.v (.int i)) v) : v = .int i := by cases h; rfl
theorem bl_ok {i : Bool} (h : RR P w K H0 H φ (.v (.bl i)) v) : v = .bl i := by cases h; rfl
theorem str_ok {i : Str} (h : RR P w K H0 H φ (.v (.str i)) v) : v = .str i := by cases h; rfl
theorem non_ok (h : RR P w K H0 H φ (.v .non) v) : v = .non := by cases h; rfl
end

/-! ### operators -/
abbrev F2 := R → R → Store → Out R
def Op2 (X : Cx) (r : R2) (g : F2) : Prop := ∀ (W : WX) (σ : L2.St) (H H0 H0' : Hp) (φ : List Addr) (st : Store) (ra rb : R) (x y : V) (Q : VK),
  RS X.prog X.w X.K H φ st → RR X.prog X.w X.K H0 H φ ra x → RR X.prog X.w X.K H0' H φ rb y → PostE X.md W H φ σ (g ra rb st) Q → r x y H Q
def fBin (g : F2) (fa fb : FE) : FE := fun env st => (fa env st).bind fun ra st1 => (fb env st1).bind fun rb st2 => g ra rb st2
section
variable {X : Cx} {W : WX} {a b : Expr} {fa fb : FE} {pos : Pos} {g : F2} {r : R2}
theorem tOp_of (hg : Op2 X r g) {σ : L2.St} {H : Hp} {Q : VK} (h : tE X.md W (fBin g fa fb) σ H Q) : tOp r (tE X.md W fa) (tE X.md W fb) σ H Q := by
  obtain ⟨env, st, φ, a, q⟩ := h
  refine tE_seq a q fun ra st1 H1 φ1 x e1 a1 rx q1 => ?_
  refine tE_seq a1 q1 fun rb st2 H2 φ2 y e2 a2 ry q2 => ?_
  exact hg W σ H2 H H1 φ2 st2 ra rb x y Q a2.rs (rx.mono e2) ry q2
theorem se_op {op : Operator} (ho : OpR X (binaryOp op) r) (hg : Op2 X r g) (ha : SE X W a fa) (hb : SE X W b fb) : SE X W (.BinOp a op b pos) (fBin g fa fb) := pe_imp (pe_op ho ha hb) fun _ _ _ h => tOp_of hg h
theorem se_cmp {op : CmpOp} (ho : OpR X (compareOp op) r) (hg : Op2 X r g) (hm : behindInMarks op b = false) (ha : SE X W a fa) (hb : SE X W b fb) : SE X W (.Compare a [op] [b] pos) (fBin g fa fb) := pe_imp (pe_cmpR ho ha hb hm) fun _ _ _ h => tOp_of hg h
end

def gAdd : F2 := fun ra rb st => match ra, rb with
  | .v (.int i), .v (.int j) => .ok (.v (.int (i + j))) st
  | .v (.str x), .v (.str y) => if x.length + y.length ≤ 1000000 then .ok (.v (.str (x ++ y))) st else .stuck
  | .v (.tup xs), .v (.tup ys) => if xs.length + ys.length ≤ 1000000 then .ok (.v (.tup (xs ++ ys))) st else .stuck
  | _, _ => match seqM st ra, seqM st rb with
    | some xs, some ys => if xs.length + ys.length ≤ 1000000 then .ok (.o (.lst (xs ++ ys))) st else .stuck
    | _, _ => .stuck
def rAdd4 (K : PySem.W.Frag) : R2 := fun x y H Q => rI0 (fun i j => .int (i + j)) x y H Q ∨ (fun x y H Q => ∃ i j, x = .str i ∧ y = .str j ∧ i.length + j.length ≤ sizeLine ∧ Q (.str (i ++ j)) H : R2) x y H Q ∨ rCatA K x y H Q ∨ rCat x y H Q
theorem op_add4 {X : Cx} : OpR X (binaryOp .Add) (rAdd4 X.K) := OpR.or op_add (OpR.or op_add_str (OpR.or op_catA op_cat))
theorem op2_add {X : Cx} : Op2 X (rAdd4 X.K) gAdd := by
  intro W σ H H0 H0' φ st ra rb x y Q s rx ry h
  unfold gAdd at h
  split at h
  · rw [int_ok rx, int_ok ry]
    exact .inl ⟨_, _, rfl, rfl, of_val s (.int _) h⟩
  · rw [str_ok rx, str_ok ry]
    split at h
    · rename_i hl
      exact .inr (.inl ⟨_, _, rfl, rfl, line_of hl, of_val s (.str _) h⟩)
    · exact h.elim
  · split at h
    · rename_i xs ys hl
      obtain ⟨a, vs, rfl, q, t⟩ := tup_ok rx
      obtain ⟨b, ws, rfl, q', t'⟩ := tup_ok ry
      refine .inr (.inr (.inl ⟨a, b, vs, ws, rfl, rfl, SqT.of q, SqT.of q', by rw [← t.length, ← t'.length]; exact line_of hl, fun e => ?_, fun _ e => ?_, fun _ _ p hp => new_tup s (t.append t') h hp⟩))
      · subst e
        cases t
        exact of_val (M := X.md) s (.tup q' (by simpa using t')) (by simpa using h)
      · subst e
        cases t'
        exact of_val (M := X.md) s (.tup q (by simpa using t)) (by simpa using h)
    · exact h.elim
  · split at h
    · rename_i xs ys e1 e2
      split at h
      · rename_i hl
        obtain ⟨a, vs, rfl, q, t⟩ := seqM_ok s rx e1
        obtain ⟨b, ws, rfl, q', t'⟩ := seqM_ok s ry e2
        exact .inr (.inr (.inr ⟨a, b, vs, ws, rfl, rfl, q, q', by rw [← t.length, ← t'.length]; exact line_of hl, fun p hp => new_lst s (t.append t') h hp⟩))
      · exact h.elim
    · exact h.elim

/-- two ints -/
def gI (C : Int → Int → Prop) [∀ i j, Decidable (C i j)] (f : Int → Int → D) : F2 := fun ra rb st => match ra, rb with
  | .v (.int i), .v (.int j) => if C i j then .ok (.v (f i j)) st else .stuck
  | _, _ => .stuck
theorem op2_I {X : Cx} {C : Int → Int → Prop} [∀ i j, Decidable (C i j)] {C' : Int → Int → Prop} {f : Int → Int → D} {g : Int → Int → V} (hC : ∀ i j, C i j → C' i j) (hf : ∀ i j H φ, RD X.K H φ (f i j) (g i j)) : Op2 X (rI C' g) (gI C f) := by
  intro W σ H H0 H0' φ st ra rb x y Q s rx ry h
  unfold gI at h
  split at h
  · rw [int_ok rx, int_ok ry]
    split at h
    · rename_i c
      exact ⟨_, _, rfl, rfl, hC _ _ c, of_val s (hf _ _ _ _) h⟩
    · exact h.elim
  · exact h.elim
theorem op2_I0 {X : Cx} {f : Int → Int → D} {g : Int → Int → V} (hf : ∀ i j H φ, RD X.K H φ (f i j) (g i j)) : Op2 X (rI0 g) (gI (fun _ _ => True) f) := by
  intro W σ H H0 H0' φ st ra rb x y Q s rx ry h
  unfold gI at h
  split at h
  · rw [int_ok rx, int_ok ry]
    rw [if_pos trivial] at h
    exact ⟨_, _, rfl, rfl, of_val s (hf _ _ _ _) h⟩
  · exact h.elim
abbrev gSub : F2 := gI (fun _ _ => True) fun i j => .int (i - j)
abbrev gMod : F2 := gI (fun _ j => 0 < j) fun i j => .int (i % j)
abbrev gDiv : F2 := gI (fun _ j => 0 < j ∧ j < 1073741824) fun i j => .int (i / j)
abbrev gPow : F2 := gI (fun i j => 0 ≤ j ∧ j ≤ 1000000 ∧ i.natAbs < 2 ^ 64) fun i j => .int (i ^ j.toNat)
abbrev gShl : F2 := gI (fun i j => 0 ≤ j ∧ j ≤ 1000000 ∧ i.natAbs < 2 ^ 64) fun i j => .int (i * 2 ^ j.toNat)
abbrev gShr : F2 := gI (fun _ j => 0 ≤ j) fun i j => .int (i / 2 ^ j.toNat)
abbrev gAnd : F2 := gI (fun _ _ => True) fun i j => .int (Builtin.bitAnd i j)
theorem op2_sub {X : Cx} : Op2 X (rI0 fun i j => .int (i - j)) gSub := op2_I0 fun _ _ _ _ => .int _
theorem op2_mod {X : Cx} : Op2 X (rI (fun _ j => 0 < j) fun i j => .int (i % j)) gMod := op2_I (fun _ _ h => h) fun _ _ _ _ => .int _
theorem op2_div {X : Cx} : Op2 X (rI CDiv fun i j => .int (i / j)) gDiv := op2_I (fun _ _ h => h) fun _ _ _ _ => .int _
theorem op2_pow {X : Cx} : Op2 X (rI CPow fun i j => .int (i ^ j.toNat)) gPow := op2_I (fun _ _ h => h) fun _ _ _ _ => .int _
theorem op2_shl {X : Cx} : Op2 X (rI CPow fun i j => .int (i * 2 ^ j.toNat)) gShl := op2_I (fun _ _ h => h) fun _ _ _ _ => .int _
theorem op2_shr {X : Cx} : Op2 X (rI (fun _ j => 0 ≤ j) fun i j => .int (i / 2 ^ j.toNat)) gShr := op2_I (fun _ _ h => h) fun _ _ _ _ => .int _
theorem op2_and {X : Cx} : Op2 X (rI0 fun i j => .int (Builtin.bitAnd i j)) gAnd := op2_I0 fun _ _ _ _ => .int _

/-- times: one factor is small -/
def CMulX (i j : Int) : Prop := i.natAbs < 1000000000000000000 ∨ j.natAbs < 1000000000000000000
theorem CMulX.fits {i j : Int} (h : CMulX i j) : IntMulOk i j := by
  rcases h with h | h
  · exact IntMulOk.of_left (intBits_le_64 (by omega) (by omega))
  · exact IntMulOk.of_right (intBits_le_64 (by omega) (by omega))
theorem op_mulX {X : Cx} : OpR X (binaryOp .Mult) (rI CMulX fun i j => .int (i * j)) := opI fun _ _ _ _ _ _ _ hc q => mul_int q hc.fits
/-- times: two ints, one of them small; a list that often -/
def gMul : F2 := fun ra rb st => match ra, rb with
  | .v (.int i), .v (.int j) => if i.natAbs < 1000000000000000000 ∨ j.natAbs < 1000000000000000000 then .ok (.v (.int (i * j))) st else .stuck
  | _, .v (.int k) => match seqM st ra with
    | some xs => if 0 ≤ k ∧ k ≤ 1000000 ∧ xs.length * k.toNat ≤ 1000000 then .ok (.o (.lst (List.replicate k.toNat xs).flatten)) st else .stuck
    | _ => .stuck
  | _, _ => .stuck
theorem RDs.rep {K : PySem.W.Frag} {H : Hp} {φ : List Addr} {xs : List D} {vs : List V} (r : RDs K H φ xs vs) : ∀ n : Nat, RDs K H φ (List.replicate n xs).flatten (List.replicate n vs).flatten
  | 0 => .nil
  | n + 1 => by rw [List.replicate_succ, List.replicate_succ, List.flatten_cons, List.flatten_cons]; exact r.append (RDs.rep r n)
theorem op_mul2 {X : Cx} : OpR X (binaryOp .Mult) (fun x y H Q => rI CMulX (fun i j => .int (i * j)) x y H Q ∨ rRep x y H Q) := OpR.or op_mulX op_rep
theorem op2_mul {X : Cx} : Op2 X (fun x y H Q => rI CMulX (fun i j => .int (i * j)) x y H Q ∨ rRep x y H Q) gMul := by
  intro W σ H H0 H0' φ st ra rb x y Q s rx ry h
  unfold gMul at h
  split at h
  · rw [int_ok rx, int_ok ry]
    split at h
    · rename_i c
      exact .inl ⟨_, _, rfl, rfl, c, of_val s (.int _) h⟩
    · exact h.elim
  · rw [int_ok ry]
    split at h
    · rename_i xs e
      split at h
      · rename_i c
        obtain ⟨a, vs, rfl, q, t⟩ := seqM_ok s rx e
        obtain ⟨c1, c2, c3⟩ := c
        exact .inr ⟨a, _, vs, rfl, rfl, q, by omega, by omega, by rw [← t.length]; exact line_of c3, fun p hp => new_lst s (t.rep _) h hp⟩
      · exact h.elim
    · exact h.elim
  · exact h.elim

/-! ### comparisons of ints -/
abbrev gLt : F2 := gI (fun _ _ => True) fun i j => .bl (decide (i < j))
abbrev gLe : F2 := gI (fun _ _ => True) fun i j => .bl (decide (i ≤ j))
abbrev gGt : F2 := gI (fun _ _ => True) fun i j => .bl (decide (j < i))
abbrev gGe : F2 := gI (fun _ _ => True) fun i j => .bl (decide (j ≤ i))
theorem op2_lt {X : Cx} : Op2 X (rI0 fun i j => .bl (decide (i < j))) gLt := op2_I0 fun _ _ _ _ => .bl _
theorem op2_le {X : Cx} : Op2 X (rI0 fun i j => .bl (decide (i ≤ j))) gLe := op2_I0 fun _ _ _ _ => .bl _
theorem op2_gt {X : Cx} : Op2 X (rI0 fun i j => .bl (decide (j < i))) gGt := op2_I0 fun _ _ _ _ => .bl _
theorem op2_ge {X : Cx} : Op2 X (rI0 fun i j => .bl (decide (j ≤ i))) gGe := op2_I0 fun _ _ _ _ => .bl _

/-! ### as data of the model -/
def D.toP (st : Store) : Nat → D → Option PyData
  | 0, _ => none
  | _ + 1, .non => some .none
  | _ + 1, .bl b => some (.bool b)
  | _ + 1, .int i => some (.int i)
  | _ + 1, .str x => if PyData.strOk x = true then some (.str x) else none
  | n + 1, .tup xs => (xs.mapM (D.toP st n)).map .tuple
  | n + 1, .lz xs => (xs.mapM (D.toP st n)).map .list
  | n + 1, .ref k => match st[k]? with
    | some (.lst xs) => (xs.mapM (D.toP st n)).map .list
    | _ => none
def R.toP (st : Store) (n : Nat) : R → Option PyData
  | .v d => d.toP st n
  | .o (.lst xs) => (xs.mapM (D.toP st n)).map .list
  | _ => none

section
variable {P : Program} {w : World} {K : PySem.W.Frag} {H : Hp} {φ : List Addr} {st : Store}
theorem toP_ok (s : RS P w K H φ st) : ∀ (n : Nat) (d : D) (v : V) (p : PyData), RD K H φ d v → d.toP st n = some p → Dp K H v p ∧ p.canLay0 = true ∧ p.depth ≤ n
  | 0, _, _, _, _, e => by cases e
  | n + 1, d, v, p, r, e => by
    have all : ∀ (xs : List D) (vs : List V) (ps : List PyData), RDs K H φ xs vs → xs.mapM (D.toP st n) = some ps → DpAll K H vs ps ∧ PyData.canLayAll0 ps = true ∧ PyData.depthAll ps ≤ n := by
      intro xs
      induction xs with
      | nil =>
        intro vs ps r e
        cases r
        have e' : ps = [] := by simpa using e.symm
        subst e'
        exact ⟨.nil, by simp [PyData.canLayAll0], by simp [PyData.depthAll]⟩
      | cons d ds ih =>
        intro vs ps r e
        cases r with
        | cons h t =>
          rw [List.mapM_cons] at e
          cases e1 : d.toP st n with
          | none => rw [e1] at e; cases e
          | some p =>
            rw [e1] at e
            cases e2 : ds.mapM (D.toP st n) with
            | none => rw [e2] at e; cases e
            | some qs =>
              rw [e2] at e
              have e' : ps = p :: qs := by simpa using e.symm
              subst e'
              obtain ⟨h1, h2, h3⟩ := toP_ok s n d _ p h e1
              obtain ⟨t1, t2, t3⟩ := ih _ qs t e2
              exact ⟨.cons h1 t1, by simp [PyData.canLayAll0, h2, t2], by simp only [PyData.depthAll]; omega⟩
    cases r with
    | non => cases e; exact ⟨.non, by simp [PyData.canLay0], by simp [PyData.depth]⟩
    | bl b => cases e; exact ⟨.bl b, by simp [PyData.canLay0], by simp [PyData.depth]⟩
    | int b => cases e; exact ⟨.int b, by simp [PyData.canLay0], by simp [PyData.depth]⟩
    | str b =>
      simp only [D.toP] at e
      split at e
      · rename_i hb
        cases e; exact ⟨.str b, by simpa [PyData.canLay0] using hb, by simp [PyData.depth]⟩
      · cases e
    | tup q t =>
      rename_i a vs xs
      simp only [D.toP] at e
      cases e1 : xs.mapM (D.toP st n) with
      | none => rw [e1] at e; cases e
      | some ps =>
        rw [e1] at e; cases e
        obtain ⟨h1, h2, h3⟩ := all _ _ _ t e1
        exact ⟨.tup (SqT.of q) h1, by simpa [PyData.canLay0] using h2, by simp only [PyData.depth]; omega⟩
    | lz q t =>
      rename_i a vs xs
      simp only [D.toP] at e
      cases e1 : xs.mapM (D.toP st n) with
      | none => rw [e1] at e; cases e
      | some ps =>
        rw [e1] at e; cases e
        obtain ⟨h1, h2, h3⟩ := all _ _ _ t e1
        exact ⟨.lst q.sq h1, by simpa [PyData.canLay0] using h2, by simp only [PyData.depth]; omega⟩
    | ref q =>
      obtain ⟨o, e1, e2⟩ := s.os.get q
      simp only [D.toP, e1] at e
      cases e2 with
      | lst q' t =>
        rename_i xs vs
        simp only at e
        cases e3 : xs.mapM (D.toP st n) with
        | none => rw [e3] at e; cases e
        | some ps =>
          rw [e3] at e; cases e
          obtain ⟨h1, h2, h3⟩ := all _ _ _ t e3
          exact ⟨.lst (SqL.of q') h1, by simpa [PyData.canLay0] using h2, by simp only [PyData.depth]; omega⟩
      | _ => cases e
theorem toPs_ok (s : RS P w K H φ st) {n : Nat} : ∀ {xs : List D} {vs : List V} {ps : List PyData}, RDs K H φ xs vs → xs.mapM (D.toP st n) = some ps → DpAll K H vs ps ∧ PyData.canLayAll0 ps = true ∧ PyData.depthAll ps ≤ n := by
  intro xs
  induction xs with
  | nil =>
    intro vs ps r e
    cases r
    have e' : ps = [] := by simpa using e.symm
    subst e'
    exact ⟨.nil, by simp [PyData.canLayAll0], by simp [PyData.depthAll]⟩
  | cons d ds ih =>
    intro vs ps r e
    cases r with
    | cons h t =>
      rw [List.mapM_cons] at e
      cases e1 : d.toP st n with
      | none => rw [e1] at e; cases e
      | some p =>
        rw [e1] at e
        cases e2 : ds.mapM (D.toP st n) with
        | none => rw [e2] at e; cases e
        | some qs =>
          rw [e2] at e
          have e' : ps = p :: qs := by simpa using e.symm
          subst e'
          obtain ⟨h1, h2, h3⟩ := toP_ok s n d _ p h e1
          obtain ⟨t1, t2, t3⟩ := ih t e2
          exact ⟨.cons h1 t1, by simp [PyData.canLayAll0, h2, t2], by simp only [PyData.depthAll]; omega⟩
theorem rtoP_ok {H0 : Hp} {r : R} {v : V} {p : PyData} (s : RS P w K H φ st) {n : Nat} (h : RR P w K H0 H φ r v) (e : r.toP st n = some p) : Dp K H v p ∧ p.canLay0 = true ∧ p.depth ≤ n + 1 := by
  cases r with
  | v d => obtain ⟨h1, h2, h3⟩ := toP_ok s n d v p h e; exact ⟨h1, h2, by omega⟩
  | o x =>
    obtain ⟨a, rfl, hx, _, _⟩ := h
    cases hx with
    | lst q t =>
      rename_i xs vs
      simp only [R.toP] at e
      cases e3 : xs.mapM (D.toP st n) with
      | none => rw [e3] at e; cases e
      | some ps =>
        rw [e3] at e; cases e
        obtain ⟨h1, h2, h3⟩ := toPs_ok s t e3
        exact ⟨.lst (SqL.of q) h1, by simpa [PyData.canLay0] using h2, by simp only [PyData.depth]; omega⟩
    | _ => cases e
theorem shaped_of {p : PyData} (h : p.canLay0 = true) (d : p.depth ≤ 64) : SeqAt.shaped p = true := by
  show (p.canLay0 && decide (p.depth ≤ 64)) = true
  rw [h, decide_eq_true d]; rfl
end
end Fx

set_option Elab.async false
set_option linter.all false
set_option maxRecDepth 100000
set_option maxHeartbeats 4000000
set_option autoImplicit false
/-! Fx, part E: == != in, repr, tests, subscripts. -/
namespace Fx
open PySem PySem.Spec PyProof.Rows L2

/-- what a body's context has -/
structure Cd (X : Cx) : Prop where
  hc : X.calm = true
  hu : X.A.units + 150 < cLine
  hg : X.A.guards = some []

/-! ### == and != -/
def gEq : F2 := fun ra rb st => match ra.toP st 60, rb.toP st 60 with
  | some p, some q => .ok (.v (.bl (PyData.eqv p q))) st
  | _, _ => .stuck
def gNe : F2 := fun ra rb st => match ra.toP st 60, rb.toP st 60 with
  | some p, some q => .ok (.v (.bl (!PyData.eqv p q))) st
  | _, _ => .stuck
section
variable {X : Cx}
theorem op2_eq : Op2 X (rEqD X.K) gEq := by
  intro W σ H H0 H0' φ st ra rb x y Q s rx ry h
  unfold gEq at h
  split at h
  · rename_i p q e1 e2
    obtain ⟨h1, h2, h3⟩ := rtoP_ok s rx e1
    obtain ⟨k1, k2, k3⟩ := rtoP_ok s ry e2
    exact ⟨p, q, h1, k1, shaped_of h2 (by omega), shaped_of k2 (by omega), of_val s (.bl _) h⟩
  · exact h.elim
theorem op2_ne : Op2 X (rNeD X.K) gNe := by
  intro W σ H H0 H0' φ st ra rb x y Q s rx ry h
  unfold gNe at h
  split at h
  · rename_i p q e1 e2
    obtain ⟨h1, h2, h3⟩ := rtoP_ok s rx e1
    obtain ⟨k1, k2, k3⟩ := rtoP_ok s ry e2
    exact ⟨p, q, h1, k1, shaped_of h2 (by omega), shaped_of k2 (by omega), of_val s (.bl _) h⟩
  · exact h.elim
end

/-! ### is None -/
def R.isNon : R → Bool
  | .v .non => true
  | _ => false
def gIsN : F2 := fun ra rb st => match rb with
  | .v .non => .ok (.v (.bl ra.isNon)) st
  | _ => .stuck
def gNotN : F2 := fun ra rb st => match rb with
  | .v .non => .ok (.v (.bl (!ra.isNon))) st
  | _ => .stuck
theorem non_iff {P : Program} {w : World} {K : PySem.W.Frag} {H0 H : Hp} {φ : List Addr} {r : R} {v : V} (h : RR P w K H0 H φ r v) : decide (v = .non) = r.isNon := by
  cases r with
  | o x => obtain ⟨a, rfl, _⟩ := h; rfl
  | v d =>
    cases d <;> cases h <;> rfl
section
variable {X : Cx}
theorem op2_isN : Op2 X (fun x y H Q => y = .non ∧ Q (.bl (decide (x = .non))) H) gIsN := by
  intro W σ H H0 H0' φ st ra rb x y Q s rx ry h
  unfold gIsN at h
  split at h
  · exact ⟨non_ok ry, by rw [non_iff rx]; exact of_val s (.bl _) h⟩
  · exact h.elim
theorem op2_notN : Op2 X (fun x y H Q => y = .non ∧ Q (.bl (!decide (x = .non))) H) gNotN := by
  intro W σ H H0 H0' φ st ra rb x y Q s rx ry h
  unfold gNotN at h
  split at h
  · exact ⟨non_ok ry, by rw [non_iff rx]; exact of_val s (.bl _) h⟩
  · exact h.elim
end

/-! ### dicts -/
def D.key : D → Option Key
  | .int i => some (.inl i)
  | .str x => some (.inr x)
  | _ => none
def D.keyT : D → Option (List Key)
  | .tup xs => xs.mapM D.key
  | _ => none
def valD {κ : Type} [DecidableEq κ] (kvs : List (κ × D)) (k : κ) : Option D := (kvs.find? fun kv => decide (kv.1 = k)).map (·.2)
def putD {κ : Type} [DecidableEq κ] (kvs : List (κ × D)) (k : κ) (v : D) : List (κ × D) :=
  if (kvs.any fun kv => decide (kv.1 = k)) = true then kvs.map (fun kv => if kv.1 = k then (kv.1, v) else kv) else kvs ++ [(k, v)]
/-- the object behind -/
def objOf (st : Store) : R → Option O
  | .o x => some x
  | .v (.ref n) => st[n]?
  | _ => none
@[simp] theorem objOf_o (st : Store) (x : O) : objOf st (.o x) = some x := rfl
@[simp] theorem objOf_ref (st : Store) (n : Nat) : objOf st (.v (.ref n)) = st[n]? := rfl
/-- d at k: not a dict, not there, there -/
def dictGet (st : Store) (rd : R) (k : D) : Option (Option D) :=
  match objOf st rd with
  | some (.dK kvs) => k.key.map fun k => valD kvs k
  | some (.dT kvs) => k.keyT.map fun k => valD kvs k
  | _ => none
section
variable {P : Program} {w : World} {K : PySem.W.Frag} {H0 H : Hp} {φ : List Addr} {st : Store} {r : R} {v : V}
theorem objOf_ok {o : O} (s : RS P w K H φ st) (h : RR P w K H0 H φ r v) (e : objOf st r = some o) : ∃ a, v = .ref a ∧ RO P w K H φ o a := by
  cases r with
  | o x => cases e; obtain ⟨a, rfl, hx, _⟩ := h; exact ⟨a, rfl, hx⟩
  | v d =>
    cases d with
    | ref n =>
      obtain ⟨a, o', rfl, h1, h2, h3⟩ := s.of_ref h
      simp only [objOf, h2] at e
      cases e
      exact ⟨a, rfl, h3⟩
    | _ => cases e
theorem key_ok {d : D} {k : Key} (h : RD K H φ d v) (e : d.key = some k) : v = kV k := by
  cases h <;> first | (cases e; rfl) | cases e
theorem keys_ok : ∀ {xs : List D} {vs : List V} {ks : List Key}, RDs K H φ xs vs → xs.mapM D.key = some ks → vs = ks.map kV
  | [], _, ks, .nil, e => by
    have : ks = [] := by simpa using e.symm
    subst this; rfl
  | d :: ds, _, ks, .cons h t, e => by
    rw [List.mapM_cons] at e
    cases e1 : d.key with
    | none => rw [e1] at e; cases e
    | some k =>
      rw [e1] at e
      cases e2 : ds.mapM D.key with
      | none => rw [e2] at e; cases e
      | some ls =>
        rw [e2] at e
        have : ks = k :: ls := by simpa using e.symm
        subst this
        rw [key_ok h e1, keys_ok t e2]; rfl
def ROpt (K : PySem.W.Frag) (H : Hp) (φ : List Addr) : Option D → Option V → Prop
  | some d, some v => RD K H φ d v
  | none, none => True
  | _, _ => False
theorem RKs.val {κ : Type} [DecidableEq κ] {kvs : List (κ × D)} {kws : List (κ × V)} (r : RKs K H φ kvs kws) (k : κ) : ROpt K H φ (valD kvs k) (valV kws k) := by
  induction r with
  | nil => trivial
  | @cons k' d ds v vs h t ih =>
    unfold valD valV at *
    rw [List.find?_cons, List.find?_cons]
    by_cases e : k' = k
    · simp only [e, decide_true]; exact h
    · simp only [e, decide_false]; exact ih
theorem RKs.length {κ : Type} {kvs : List (κ × D)} {kws : List (κ × V)} (r : RKs K H φ kvs kws) : kvs.length = kws.length := by
  induction r with
  | nil => rfl
  | cons _ _ ih => simp [ih]
theorem RKs.any {κ : Type} [DecidableEq κ] {kvs : List (κ × D)} {kws : List (κ × V)} (r : RKs K H φ kvs kws) (k : κ) : (kvs.any fun kv => decide (kv.1 = k)) = (kws.any fun kv => decide (kv.1 = k)) := by
  induction r with
  | nil => rfl
  | cons _ _ ih => simp only [List.any_cons, ih]
theorem RKs.put {κ : Type} [DecidableEq κ] {kvs : List (κ × D)} {kws : List (κ × V)} (r : RKs K H φ kvs kws) (k : κ) {d : D} {v : V} (h : RD K H φ d v) : RKs K H φ (putD kvs k d) (putK kws k v) := by
  have e := r.any k
  unfold putD putK
  rw [e]
  split
  · clear e
    induction r with
    | nil => exact .nil
    | @cons k' d' ds v' vs h' t ih =>
      rw [List.map_cons, List.map_cons]
      rename_i c
      by_cases q : k' = k
      · simp only [q, if_true]
        subst q
        refine .cons h ?_
        by_cases c2 : (vs.any fun kv => decide (kv.1 = k')) = true
        · exact ih c2
        · have n1 : ∀ p ∈ vs, p.1 ≠ k' := fun p hp z => c2 (List.any_eq_true.mpr ⟨p, hp, by simp [z]⟩)
          have n2 : ∀ p ∈ ds, p.1 ≠ k' := fun p hp z => by
            have := t.any k'
            exact c2 (by rw [← this]; exact List.any_eq_true.mpr ⟨p, hp, by simp [z]⟩)
          have m1 : vs.map (fun kv => if kv.1 = k' then (kv.1, v) else kv) = vs := by
            conv => rhs; rw [← List.map_id vs]
            exact List.map_congr_left fun p hp => by simp [n1 p hp]
          have m2 : ds.map (fun kv => if kv.1 = k' then (kv.1, d) else kv) = ds := by
            conv => rhs; rw [← List.map_id ds]
            exact List.map_congr_left fun p hp => by simp [n2 p hp]
          rw [m1, m2]; exact t
      · simp only [q, if_false]
        refine .cons h' (ih ?_)
        simpa [q] using c
  · clear e
    induction r with
    | nil => exact .cons h .nil
    | @cons k' d' ds v' vs h' t ih =>
      rename_i c
      refine .cons h' (ih ?_)
      simp only [List.any_cons, Bool.or_eq_true, not_or] at c
      exact c.2
end
/-- d[k], k in d -/
theorem dictGet_ok {P : Program} {w : World} {K : PySem.W.Frag} {H0 H : Hp} {φ : List Addr} {st : Store} {rd : R} {x y : V} {k : D} {o : Option D} (s : RS P w K H φ st) (hd : RR P w K H0 H φ rd x) (hk : RD K H φ k y) (e : dictGet st rd k = some o) :
    ∃ a ov, x = .ref a ∧ DGet H a y ov ∧ ROpt K H φ o ov := by
  unfold dictGet at e
  split at e
  · rename_i kvs eo
    obtain ⟨a, rfl, ro⟩ := objOf_ok s hd eo
    cases ro with
    | dK q t =>
      cases e1 : k.key with
      | none => rw [e1] at e; cases e
      | some k' =>
        rw [e1] at e; cases e
        rw [key_ok hk e1]
        exact ⟨a, _, rfl, DGet.k q, t.val k'⟩
  · rename_i kvs eo
    obtain ⟨a, rfl, ro⟩ := objOf_ok s hd eo
    cases ro with
    | dT q t =>
      cases e1 : k.keyT with
      | none => rw [e1] at e; cases e
      | some k' =>
        rw [e1] at e; cases e
        cases k with
        | tup xs =>
          cases hk with
          | tup hq hr =>
            rename_i b vs
            have ev := keys_ok hr e1
            subst ev
            exact ⟨a, _, rfl, DGet.t q hq, t.val k'⟩
        | _ => cases e1
  · cases e

/-! ### in, not in -/
/-- the items of a list or a tuple, as data -/
def itemsP (st : Store) (r : R) : Option (List PyData) := match r with
  | .v (.tup xs) => xs.mapM (D.toP st 60)
  | _ => (seqL st r).bind fun xs => xs.mapM (D.toP st 60)
def inP (st : Store) (ra rb : R) : Option Bool := match rb, ra with
  | .v (.str y), .v (.str x) => some (!(Builtin.Str.occurrences y x 0 y.length 1).isEmpty)
  | rb, ra => match itemsP st rb with
    | some ps => (ra.toP st 60).map fun p => ps.any fun z => PyData.eqv z p
    | none => match ra with
      | .v k => (dictGet st rb k).map (·.isSome)
      | _ => none
def gIn : F2 := fun ra rb st => match inP st ra rb with
  | some b => .ok (.v (.bl b)) st
  | none => .stuck
def gNotIn : F2 := fun ra rb st => match inP st ra rb with
  | some b => .ok (.v (.bl (!b))) st
  | none => .stuck
/-- what is asked of the two for "in" to have the answer b -/
def InV (K : PySem.W.Frag) (x y : V) (H : Hp) (b : Bool) : Prop :=
  (∃ i j, x = .str i ∧ y = .str j ∧ b = !(Builtin.Str.occurrences j i 0 j.length 1).isEmpty) ∨
  (∃ d ds, Dp K H x d ∧ (Dp K H y (.list ds) ∨ Dp K H y (.tuple ds)) ∧ SeqAt.shaped d = true ∧ PyData.canLayAll0 ds = true ∧ b = ds.any fun z => PyData.eqv z d) ∨
  (∃ a o, y = .ref a ∧ DGet H a x o ∧ b = o.isSome)
section
variable {P : Program} {w : World} {K : PySem.W.Frag} {H0 H0' H : Hp} {φ : List Addr} {st : Store} {ra rb : R} {x y : V}
theorem itemsP_ok {ps : List PyData} (s : RS P w K H φ st) (h : RR P w K H0 H φ rb y) (e : itemsP st rb = some ps) : (Dp K H y (.list ps) ∨ Dp K H y (.tuple ps)) ∧ PyData.canLayAll0 ps = true := by
  have lst : ∀ xs, seqL st rb = some xs → xs.mapM (D.toP st 60) = some ps → (Dp K H y (.list ps) ∨ Dp K H y (.tuple ps)) ∧ PyData.canLayAll0 ps = true := fun xs e1 e2 => by
    obtain ⟨a, vs, rfl, q, t⟩ := seqL_ok s h e1
    obtain ⟨h1, h2, _⟩ := toPs_ok s t e2
    exact ⟨.inl (.lst q h1), h2⟩
  unfold itemsP at e
  split at e
  · obtain ⟨a, vs, rfl, q, t⟩ := tup_ok h
    obtain ⟨h1, h2, _⟩ := toPs_ok s t e
    exact ⟨.inr (.tup (SqT.of q) h1), h2⟩
  · cases e1 : seqL st rb with
    | none => rw [e1] at e; cases e
    | some xs => rw [e1] at e; exact lst xs e1 e
theorem inP_ok {b : Bool} (s : RS P w K H φ st) (rx : RR P w K H0 H φ ra x) (ry : RR P w K H0' H φ rb y) (e : inP st ra rb = some b) : InV K x y H b := by
  unfold inP at e
  split at e
  · cases e
    exact .inl ⟨_, _, str_ok rx, str_ok ry, rfl⟩
  · split at e
    · rename_i ps e1
      cases e2 : ra.toP st 60 with
      | none => rw [e2] at e; cases e
      | some p =>
        rw [e2] at e; cases e
        obtain ⟨h1, h2, h3⟩ := rtoP_ok s rx e2
        obtain ⟨k1, k2⟩ := itemsP_ok s ry e1
        exact .inr (.inl ⟨p, ps, h1, k1, shaped_of h2 (by omega), k2, rfl⟩)
    · split at e
      · rename_i k _
        cases e1 : dictGet st rb k with
        | none => rw [e1] at e; cases e
        | some o =>
          rw [e1] at e; cases e
          obtain ⟨a, ov, rfl, g, r⟩ := dictGet_ok s ry rx e1
          refine .inr (.inr ⟨a, ov, rfl, g, ?_⟩)
          cases o <;> cases ov <;> first | rfl | exact r.elim
      · cases e
end
theorem shaped_lay {d : PyData} (h : SeqAt.shaped d = true) : d.canLay0 = true ∧ d.depth ≤ 64 := by
  have h' : (d.canLay0 && decide (d.depth ≤ 64)) = true := h
  rw [Bool.and_eq_true] at h'
  exact ⟨h'.1, of_decide_eq_true h'.2⟩
section
variable {X : Cx}
def rInV (K : PySem.W.Frag) : R2 := fun x y H Q => ∃ b, InV K x y H b ∧ Q (.bl b) H
def rNotInV (K : PySem.W.Frag) : R2 := fun x y H Q => ∃ b, InV K x y H b ∧ Q (.bl (!b)) H
theorem op_inV (C : Cd X) : OpR X (compareOp .In) (rInV X.K) := by
  rintro pins s σ H x y v u Q I rx ry ⟨b, h, q⟩
  have hu := C.hu
  rcases h with ⟨i, j, rfl, rfl, rfl⟩ | ⟨d, ds, hd, he, sd, se, rfl⟩ | ⟨a, o, rfl, g, rfl⟩
  · exact op_in_str pins s σ H _ _ v u Q I rx ry ⟨i, j, rfl, rfl, q⟩
  · obtain ⟨as, r1⟩ := Dp.reads I d x v hd rx
    obtain ⟨l1, l2⟩ := shaped_lay sd
    have room : X.A.units + 1 + min (PyData.depthAll ds) d.depth < cLine := by omega
    rcases he with he | he
    · obtain ⟨bs, r2⟩ := Dp.reads I (.list ds) y u he ry
      exact SeqAt.in_list_reads r2 r1 se l1 room ⟨.bl _, H, I, rfl, q⟩
    · obtain ⟨bs, r2⟩ := Dp.reads I (.tuple ds) y u he ry
      exact SeqAt.in_tuple_reads r2 r1 se l1 room ⟨.bl _, H, I, rfl, q⟩
  · obtain rfl : u = Value.ref a := ry
    exact d_in (by omega) I g rx fun s3 I3 => ⟨.bl o.isSome, H, I3, rfl, q⟩
theorem op_notInV (C : Cd X) : OpR X (compareOp .NotIn) (rNotInV X.K) := by
  rintro pins s σ H x y v u Q I rx ry ⟨b, h, q⟩
  have hu := C.hu
  rcases h with ⟨i, j, rfl, rfl, rfl⟩ | ⟨d, ds, hd, he, sd, se, rfl⟩ | ⟨a, o, rfl, g, rfl⟩
  · exact op_notin_str pins s σ H _ _ v u Q I rx ry ⟨i, j, rfl, rfl, q⟩
  · obtain ⟨as, r1⟩ := Dp.reads I d x v hd rx
    obtain ⟨l1, l2⟩ := shaped_lay sd
    have room : X.A.units + 1 + min (PyData.depthAll ds) d.depth < cLine := by omega
    rcases he with he | he
    · obtain ⟨bs, r2⟩ := Dp.reads I (.list ds) y u he ry
      exact SeqAt.notIn_list_reads r2 r1 se l1 room ⟨.bl _, H, I, rfl, q⟩
    · obtain ⟨bs, r2⟩ := Dp.reads I (.tuple ds) y u he ry
      exact SeqAt.notIn_tuple_reads r2 r1 se l1 room ⟨.bl _, H, I, rfl, q⟩
  · obtain rfl : u = Value.ref a := ry
    exact d_notIn (by omega) I g rx fun s3 I3 => ⟨.bl (!o.isSome), H, I3, rfl, q⟩
theorem op2_in : Op2 X (rInV X.K) gIn := by
  intro W σ H H0 H0' φ st ra rb x y Q s rx ry h
  unfold gIn at h
  split at h
  · rename_i b e
    exact ⟨b, inP_ok s rx ry e, of_val s (.bl _) h⟩
  · exact h.elim
theorem op2_notIn : Op2 X (rNotInV X.K) gNotIn := by
  intro W σ H H0 H0' φ st ra rb x y Q s rx ry h
  unfold gNotIn at h
  split at h
  · rename_i b e
    exact ⟨b, inP_ok s rx ry e, of_val s (.bl _) h⟩
  · exact h.elim
end
end Fx

set_option Elab.async false
set_option linter.all false
set_option maxRecDepth 100000
set_option maxHeartbeats 4000000
set_option autoImplicit false
/-! Fx, part F: tests, and or not, if-expressions, subscripts, slices. -/
namespace Fx
open PySem PySem.Spec PyProof.Rows L2

/-! ### tests -/
def asB : R → Store → Out Bool
  | .v (.bl b), st => .ok b st
  | _, _ => .stuck
@[simp] theorem asB_bl (b : Bool) (st : Store) : asB (.v (.bl b)) st = .ok b st := rfl
def fTrue (f : FE) : FB := fun env st => (f env st).bind asB
section
variable {X : Cx} {W : WX}
theorem tTest_of {f : FE} {t : TE} (i : ∀ σ H Q, tE X.md W f σ H Q → t σ H Q) {σ : L2.St} {H : Hp} {Q : Bool → Hp → Prop} (h : tB X.md W (fTrue f) σ H Q) : t σ H (fun x H' => ∃ k, x = .bl k ∧ Q k H') := by
  refine i _ _ _ ?_
  obtain ⟨env, st, φ, a, q⟩ := h
  refine ⟨env, st, φ, a, (PostB.bind q).mono fun r H1 φ1 st1 e s q1 v rv => ?_⟩
  unfold asB at q1
  split at q1
  · exact ⟨_, bl_ok rv, q1 H1 φ1 Ext.refl s⟩
  · exact q1.elim
theorem sb_val {e : Expr} {f : FE} (h : SE X W e f) (he : ∀ whole, isTrue e X.env whole = (do let v ← whole; standAt e.pos; holding [v] (truthy v)) := by intro _; rfl) : SB X W e (fTrue f) :=
  pt_imp (pt_val h he) fun σ H Q q => tTest_of (fun _ _ _ z => z) q
theorem sb_cmp {a b : Expr} {fa fb : FE} {pos : Pos} {g : F2} {r : R2} {op : CmpOp} (ho : OpR X (compareOp op) r) (hg : Op2 X r g) (hm : behindInMarks op b = false) (ha : SE X W a fa) (hb : SE X W b fb) : SB X W (.Compare a [op] [b] pos) (fTrue (fBin g fa fb)) :=
  pt_imp (pt_cmpR ho ha hb hm) fun σ H Q q => tTest_of (fun _ _ _ z => tOp_of hg z) q
end
def fAnd (fa fb : FB) : FB := fun env st => (fa env st).bind fun b st1 => if b = true then fb env st1 else .ok false st1
def fOr (fa fb : FB) : FB := fun env st => (fa env st).bind fun b st1 => if b = true then .ok true st1 else fb env st1
def fNot (fa : FB) : FB := fun env st => (fa env st).bind fun b st1 => .ok (!b) st1
def fIf (c : FB) (fa fb : FE) : FE := fun env st => (c env st).bind fun b st1 => if b = true then fa env st1 else fb env st1
/-- as values: bools, the last one anything -/
def fAndV (fa fb : FE) : FE := fun env st => (fa env st).bind fun r st1 => match r with
  | .v (.bl true) => fb env st1
  | .v (.bl false) => .ok (.v (.bl false)) st1
  | _ => .stuck
def fOrV (fa fb : FE) : FE := fun env st => (fa env st).bind fun r st1 => match r with
  | .v (.bl true) => .ok (.v (.bl true)) st1
  | .v (.bl false) => fb env st1
  | _ => .stuck
def fNotV (fa : FE) : FE := fun env st => (fa env st).bind fun r st1 => match r with
  | .v (.bl b) => .ok (.v (.bl (!b))) st1
  | _ => .stuck
section
variable {X : Cx} {W : WX} {a b : Expr} {rest : List Expr} {fa fb : FB} {ga gb : FE} {pos : Pos}
theorem tB_then {f : FB} {k : Bool → Store → Out Bool} {Q : Bool → Hp → Prop} {G : Bool → Hp → Prop} {σ : L2.St} {H : Hp} {env : Env} {st : Store} {φ : List Addr} (a : At X.md σ H env st φ) (h : PostB X.md W H φ σ ((f env st).bind k) Q)
    (g : ∀ b st1 H1 φ1, Ext H φ H1 φ1 → At X.md σ H1 env st1 φ1 → PostB X.md W H1 φ1 σ (k b st1) Q → G b H1) : tB X.md W f σ H G :=
  ⟨env, st, φ, a, (PostB.bind h).mono fun b H1 φ1 st1 e s q => g b st1 H1 φ1 e (a.then e s) q⟩
theorem sbw_and1 (ha : SB X W a fa) : SBW X W (.BoolOp .And [a] pos) fa := pw_and1 ha
theorem sbw_or1 (ha : SB X W a fa) : SBW X W (.BoolOp .Or [a] pos) fa := pw_or1 ha
theorem sbw_and (ha : SB X W a fa) (hb : SBW X W (.BoolOp .And (b :: rest) pos) fb) : SBW X W (.BoolOp .And (a :: b :: rest) pos) (fAnd fa fb) := by
  refine pw_imp (pw_and ha hb) fun σ H Q ⟨env, st, φ, a, q⟩ => ?_
  refine tB_then a q fun b st1 H1 φ1 e a1 q1 => ?_
  cases b with
  | true => exact ⟨env, st1, φ1, a1, q1⟩
  | false => exact q1 H1 φ1 Ext.refl a1.rs
theorem sbw_or (ha : SB X W a fa) (hb : SBW X W (.BoolOp .Or (b :: rest) pos) fb) : SBW X W (.BoolOp .Or (a :: b :: rest) pos) (fOr fa fb) := by
  refine pw_imp (pw_or ha hb) fun σ H Q ⟨env, st, φ, a, q⟩ => ?_
  refine tB_then a q fun b st1 H1 φ1 e a1 q1 => ?_
  cases b with
  | true => exact q1 H1 φ1 Ext.refl a1.rs
  | false => exact ⟨env, st1, φ1, a1, q1⟩
theorem sb_w {e : Expr} {f : FB} (h : SBW X W e f) : SB X W e f := h.pt
theorem sb_not (ha : SB X W a fa) : SB X W (.UnaryOp .Not a pos) (fNot fa) := by
  refine pt_imp (pt_not ha) fun σ H Q ⟨env, st, φ, a, q⟩ => ?_
  exact tB_then a q fun b st1 H1 φ1 e a1 q1 => q1 H1 φ1 Ext.refl a1.rs
theorem se_if {c : Expr} {fc : FB} {x y : Expr} (hc : SB X W c fc) (ha : SE X W x ga) (hb : SE X W y gb) : SE X W (.IfExp c x y pos) (fIf fc ga gb) := by
  refine pe_imp (pe_ifExp hc ha hb) fun σ H Q ⟨env, st, φ, a, q⟩ => ?_
  refine tB_seq a q fun b st1 H1 φ1 e a1 q1 => ?_
  cases b with
  | true => exact ⟨env, st1, φ1, a1, q1⟩
  | false => exact ⟨env, st1, φ1, a1, q1⟩
theorem se_one {op : BoolOp} (ha : SE X W a ga) : SE X W (.BoolOp op [a] pos) ga := pe_one ha
theorem se_and (ha : SE X W a ga) (hb : SE X W (.BoolOp .And (b :: rest) pos) gb) : SE X W (.BoolOp .And (a :: b :: rest) pos) (fAndV ga gb) := by
  refine pe_imp (pe_and ha hb) fun σ H Q ⟨env, st, φ, a, q⟩ => ?_
  refine tE_seq a q fun r st1 H1 φ1 v e a1 rv q1 => ?_
  split at q1
  · exact ⟨true, bl_ok rv, ⟨env, st1, φ1, a1, q1⟩⟩
  · exact ⟨false, bl_ok rv, of_val a1.rs (.bl false) q1⟩
  · exact q1.elim
theorem se_or (ha : SE X W a ga) (hb : SE X W (.BoolOp .Or (b :: rest) pos) gb) : SE X W (.BoolOp .Or (a :: b :: rest) pos) (fOrV ga gb) := by
  refine pe_imp (pe_or ha hb) fun σ H Q ⟨env, st, φ, a, q⟩ => ?_
  refine tE_seq a q fun r st1 H1 φ1 v e a1 rv q1 => ?_
  split at q1
  · exact ⟨true, bl_ok rv, of_val a1.rs (.bl true) q1⟩
  · exact ⟨false, bl_ok rv, ⟨env, st1, φ1, a1, q1⟩⟩
  · exact q1.elim
theorem se_not (ha : SE X W a ga) : SE X W (.UnaryOp .Not a pos) (fNotV ga) := by
  refine pe_imp (pe_not ha) fun σ H Q ⟨env, st, φ, a, q⟩ => ?_
  refine tE_seq a q fun r st1 H1 φ1 v e a1 rv q1 => ?_
  split at q1
  · exact ⟨_, bl_ok rv, of_val a1.rs (.bl _) q1⟩
  · exact q1.elim
end
/-- minus -/
def fNeg (f : FE) : FE := fun env st => (f env st).bind fun r st1 => match r with
  | .v (.int i) => .ok (.v (.int (-i))) st1
  | _ => .stuck
theorem se_neg {X : Cx} {W : WX} {a : Expr} {f : FE} {pos : Pos} (ha : SE X W a f) : SE X W (.UnaryOp .USub a pos) (fNeg f) := by
  refine pe_imp (pe_un un_neg ha) fun σ H Q ⟨env, st, φ, a, q⟩ => ?_
  refine tE_seq a q fun r st1 H1 φ1 v e a1 rv q1 => ?_
  split at q1
  · exact ⟨_, int_ok rv, of_val a1.rs (.int _) q1⟩
  · exact q1.elim
/-- a < b < c -/
def fChain (g g' : F2) (fa fb fc : FE) : FE := fun env st => (fa env st).bind fun ra st1 => (fb env st1).bind fun rb st2 => (g ra rb st2).bind fun r st3 => match r with
  | .v (.bl true) => (fc env st3).bind fun rc st4 => g' rb rc st4
  | .v (.bl false) => .ok (.v (.bl false)) st3
  | _ => .stuck
theorem tChain_of {X : Cx} {W : WX} {fa fb fc : FE} {r r' : R2} {g g' : F2} (hg : Op2 X r g) (hg' : Op2 X r' g') {σ : L2.St} {H : Hp} {Q : VK} (h : tE X.md W (fChain g g' fa fb fc) σ H Q) : tChain r r' (tE X.md W fa) (tE X.md W fb) (tE X.md W fc) σ H Q := by
  obtain ⟨env, st, φ, a, q⟩ := h
  refine tE_seq a q fun ra st1 H1 φ1 x e1 a1 rx q1 => ?_
  refine tE_seq a1 q1 fun rb st2 H2 φ2 y e2 a2 ry q2 => ?_
  refine hg W σ H2 H H1 φ2 st2 ra rb x y _ a2.rs (rx.mono e2) ry ((PostE.bind q2).mono fun r3 H3 φ3 st3 e3 s3 q3 v rv => ?_)
  have a3 := a2.then e3 s3
  split at q3
  · refine ⟨true, bl_ok rv, ?_⟩
    rw [if_pos rfl]
    refine tE_seq a3 q3 fun rc st4 H4 φ4 z e4 a4 rz q4 => ?_
    exact hg' W σ H4 H1 H3 φ4 st4 rb rc y z Q a4.rs ((ry.mono e3).mono e4) rz q4
  · refine ⟨false, bl_ok rv, ?_⟩
    rw [if_neg (by decide)]
    exact of_val s3 (.bl false) q3
  · exact q3.elim
section
variable {X : Cx} {W : WX} {a b c : Expr} {fa fb fc : FE} {pos : Pos} {g g' : F2} {r r' : R2} {op op' : CmpOp}
theorem se_chain (ho : OpR X (compareOp op) r) (ho' : OpR X (compareOp op') r') (hg : Op2 X r g) (hg' : Op2 X r' g') (ha : SE X W a fa) (hb : SE X W b fb) (hc : SE X W c fc) (hm : lastMarks [op, op'] [b, c] = false := by with_unfolding_all rfl) : SE X W (.Compare a [op, op'] [b, c] pos) (fChain g g' fa fb fc) :=
  pe_imp (pe_chain ho ho' ha hb hc hm) fun _ _ _ h => tChain_of hg hg' h
theorem sb_chain (ho : OpR X (compareOp op) r) (ho' : OpR X (compareOp op') r') (hg : Op2 X r g) (hg' : Op2 X r' g') (ha : SE X W a fa) (hb : SE X W b fb) (hc : SE X W c fc) (hm : lastMarks [op, op'] [b, c] = false := by with_unfolding_all rfl) : SB X W (.Compare a [op, op'] [b, c] pos) (fTrue (fChain g g' fa fb fc)) :=
  pt_imp (pt_chain ho ho' ha hb hc hm) fun σ H Q q => tTest_of (fun _ _ _ z => tChain_of hg hg' z) q
end

/-! ### subscripts -/
def idx (st : Store) (ra rb : R) : Option D := match ra, rb with
  | .v (.tup xs), .v (.int i) => atI xs i
  | .v (.str z), .v (.int i) => if z.length ≤ 1000000 then (atI z.cps.toList i).map fun c => .str ⟨#[c]⟩ else none
  | ra, .v k => match seqL st ra with
    | some xs => match k with
      | .int i => atI xs i
      | _ => none
    | none => (dictGet st ra k).bind id
  | _, _ => none
def gIx : F2 := fun ra rb st => match idx st ra rb with
  | some d => .ok (.v d) st
  | none => .stuck
theorem RDs.atI {K : PySem.W.Frag} {H : Hp} {φ : List Addr} {xs : List D} {vs : List V} {i : Int} {d : D} (r : RDs K H φ xs vs) (h : L2.atI xs i = some d) : ∃ v, L2.atI vs i = some v ∧ RD K H φ d v := by
  unfold L2.atI at *
  rw [← r.length]
  cases e : ixN xs.length i with
  | none => rw [e] at h; cases h
  | some j =>
    rw [e] at h
    obtain ⟨v, e1, e2⟩ := r.get (i := j) (d := d) h
    exact ⟨v, e1, e2⟩
section
variable {X : Cx}
def rIxD (K : PySem.W.Frag) : R2 := fun x y H Q => ∃ a v, x = .ref a ∧ DGet H a y (some v) ∧ Q v H
theorem ix_dict (C : Cd X) : IxR X (rIxD X.K) := by
  intro value slice pins s σ H x y v u Q I rx ry h hs
  obtain ⟨a, z, rfl, g, q⟩ := h
  obtain rfl : v = Value.ref a := rx
  have hu := C.hu
  exact PyProof.Rows.tail_any (dict_typeIs I g) PySem.F.slot_dict_getitem.lookup (d_getItem (by omega) I g ry fun w' s3 I3 rw' => ⟨z, H, I3, rw', q⟩) hs
def rIx4 (K : PySem.W.Frag) : R2 := fun x y H Q => rIx K x y H Q ∨ rIxD K x y H Q
theorem ix_all (C : Cd X) : IxR X (rIx4 X.K) := ix_seq.or (ix_dict C)
theorem op2_ix : Op2 X (rIx4 X.K) gIx := by
  intro W σ H H0 H0' φ st ra rb x y Q s rx ry h
  unfold gIx at h
  split at h
  · rename_i d e
    unfold idx at e
    split at e
    · obtain ⟨a, vs, rfl, q, t⟩ := tup_ok rx
      obtain ⟨v, e1, r⟩ := t.atI e
      exact .inl (.inr (.inl ⟨a, vs, _, v, rfl, int_ok ry, SqT.of q, e1, of_val s r h⟩))
    · split at e
      · rename_i hl
        rename_i z i
        cases e1 : atI z.cps.toList i with
        | none => rw [e1] at e; cases e
        | some c =>
          rw [e1] at e; cases e
          exact .inl (.inr (.inr ⟨z, i, c, str_ok rx, int_ok ry, line_of hl, e1, of_val s (.str _) h⟩))
      · cases e
    · split at e
      · rename_i xs e1
        split at e
        · obtain ⟨a, vs, rfl, q, t⟩ := seqL_ok s rx e1
          obtain ⟨v, e1, r⟩ := t.atI e
          exact .inl (.inl ⟨a, vs, _, v, rfl, int_ok ry, q, e1, of_val s r h⟩)
        · cases e
      · rename_i k _ _ _ _
        cases e2 : dictGet st ra k with
        | none => rw [e2] at e; cases e
        | some o =>
          rw [e2] at e
          have : o = some d := e
          subst this
          obtain ⟨a, ov, rfl, g, r⟩ := dictGet_ok s rx ry e2
          cases ov with
          | none => exact r.elim
          | some v => exact .inr ⟨a, v, rfl, g, of_val (M := X.md) s (show RD X.K H φ d v from r) h⟩
    · cases e
  · exact h.elim
theorem se_ix {W : WX} {a b : Expr} {fa fb : FE} {pos : Pos} (C : Cd X) (ha : SE X W a fa) (hb : SE X W b fb) (hs : PlainIx b) : SE X W (.Subscript a b pos) (fBin gIx fa fb) := pe_imp (pe_ix (ix_all C) ha hb hs) fun _ _ _ h => tOp_of op2_ix h
end

/-! ### slices -/
abbrev FO := Env → Store → Out (Option Int)
def fNo : FO := fun _ st => .ok none st
def fPart (f : FE) : FO := fun env st => (f env st).bind fun r st1 => match r with
  | .v (.int i) => .ok (some i) st1
  | _ => .stuck
def cutD (xs : List D) (lo hi : Option Int) : List D := (xs.drop (HT.sIx xs.length 0 lo)).take (HT.sIx xs.length xs.length hi - HT.sIx xs.length 0 lo)
def slc (r : R) (lo hi : Option Int) (st : Store) : Out R := match r with
  | .v (.tup xs) => .ok (.v (.tup (cutD xs lo hi))) st
  | .v (.str z) => if z.length ≤ 1000000 then .ok (.v (.str (cutS z lo hi))) st else .stuck
  | r => match seqL st r with
    | some xs => .ok (.o (.lst (cutD xs lo hi))) st
    | none => .stuck
def fSl (f : FE) (lo hi : FO) : FE := fun env st => (f env st).bind fun r st1 => (lo env st1).bind fun l st2 => (hi env st2).bind fun u st3 => slc r l u st3
section
variable {X : Cx} {W : WX}
def tO (M : Md) (W : WX) (f : FO) : TO := fun σ H Q => ∃ env st φ, At M σ H env st φ ∧ Post M W H φ σ (f env st) fun o H' _ _ => Q o H'
abbrev SO (X : Cx) (W : WX) (e : Option Expr) (f : FO) : Prop := PO X e (tO X.md W f)
theorem so_none : SO X W none fNo := ⟨fun pins s σ H Q I ⟨env, st, φ, a, q⟩ => po_none.run pins s σ H Q I (q H φ Ext.refl a.rs)⟩
theorem so_some {e : Expr} {f : FE} (h : SE X W e f) : SO X W (some e) (fPart f) := ⟨fun pins s σ H Q I ⟨env, st, φ, a, q⟩ => (po_some h).run pins s σ H Q I (by
  refine ⟨env, st, φ, a, (Post.bind q).mono fun r H1 φ1 st1 e s q1 v rv => ?_⟩
  split at q1
  · exact ⟨_, int_ok rv, q1 H1 φ1 Ext.refl s⟩
  · exact q1.elim)⟩
theorem RDs.cut {K : PySem.W.Frag} {H : Hp} {φ : List Addr} {xs : List D} {vs : List V} (r : RDs K H φ xs vs) (lo hi : Option Int) : RDs K H φ (cutD xs lo hi) (cutV vs lo hi) := by
  unfold cutD cutV
  rw [r.length]
  exact (r.drop _).take _
theorem cut_whole {α : Type} (xs : List α) (a b : Nat) (h : a = 0 ∧ b = xs.length) : (xs.drop a).take (b - a) = xs := by
  obtain ⟨rfl, rfl⟩ := h; simp
theorem sl_all : SlR X (fun x lo hi H Q => rSlL X.K x lo hi H Q ∨ rSlA X.K x lo hi H Q ∨ rSlS x lo hi H Q) := sl_list.or (sl_tupA.or sl_str)
theorem tO_seq {f : FO} {k : Option Int → Store → Out R} {Q : VK} {G : Option Int → Hp → Prop} {σ : L2.St} {H : Hp} {env : Env} {st : Store} {φ : List Addr} (a : At X.md σ H env st φ) (h : PostE X.md W H φ σ ((f env st).bind k) Q)
    (g : ∀ r st1 H1 φ1, Ext H φ H1 φ1 → At X.md σ H1 env st1 φ1 → PostE X.md W H1 φ1 σ (k r st1) Q → G r H1) : tO X.md W f σ H G :=
  ⟨env, st, φ, a, (PostE.bind h).mono fun b H1 φ1 st1 e s q => g b st1 H1 φ1 e (a.then e s) q⟩
theorem se_sl {a : Expr} {lo hi : Option Expr} {f : FE} {fl fh : FO} {p2 pos : Pos} (ha : SE X W a f) (hl : SO X W lo fl) (hh : SO X W hi fh) : SE X W (.Subscript a (.Slice lo hi none p2) pos) (fSl f fl fh) := by
  refine pe_imp (pe_slice sl_all ha hl hh) fun σ H Q ⟨env, st, φ, a, q⟩ => ?_
  refine tE_seq a q fun r st1 H1 φ1 x e1 a1 rx q1 => ?_
  refine tO_seq a1 q1 fun l st2 H2 φ2 e2 a2 q2 => ?_
  refine tO_seq a2 q2 fun u st3 H3 φ3 e3 a3 q3 => ?_
  have rx3 := (rx.mono e2).mono e3
  have s := a3.rs
  unfold slc at q3
  split at q3
  · obtain ⟨a, vs, rfl, qt, t⟩ := tup_ok rx3
    have tc := t.cut l u
    refine .inr (.inl ⟨a, vs, rfl, SqT.of qt, fun z => ?_, fun _ p hp => new_tup s tc q3 hp⟩)
    rename_i xs
    have e : cutD xs l u = xs := by
      unfold cutD
      rw [t.length]
      refine cut_whole xs _ _ ⟨z.1, ?_⟩
      rw [z.2, t.length]
    rw [e] at q3
    exact of_val s (.tup qt t) q3
  · split at q3
    · rename_i hl
      exact .inr (.inr ⟨_, str_ok rx3, line_of hl, of_val s (.str _) q3⟩)
    · exact q3.elim
  · split at q3
    · rename_i xs e
      obtain ⟨a, vs, rfl, qt, t⟩ := seqL_ok s rx3 e
      exact .inl ⟨a, vs, rfl, qt, fun p hp => new_lst s (t.cut l u) q3 hp⟩
    · exact q3.elim
end
end Fx

set_option Elab.async false
set_option linter.all false
set_option maxRecDepth 100000
set_option maxHeartbeats 4000000
set_option autoImplicit false
/-! Fx, part G: statements, loops. -/
namespace Fx
open PySem PySem.Spec PyProof.Rows L2

inductive OutS where
  | next (e : Env) (s : Store) | ret (r : R) (s : Store) | brk (e : Env) (s : Store) | cont (e : Env) (s : Store) | exc (x : Ex) (e : Env) (s : Store) | stuck
abbrev FS := Env → Store → OutS
def Out.thenS {α : Type} (o : Out α) (env : Env) (k : α → Store → OutS) : OutS := match o with
  | .ok a st => k a st
  | .exc x st => .exc x env st
  | .stuck => .stuck
@[simp] theorem Out.thenS_ok {α : Type} (a : α) (st : Store) (env : Env) (k : α → Store → OutS) : (Out.ok a st).thenS env k = k a st := rfl
@[simp] theorem Out.thenS_exc {α : Type} (x : Ex) (st : Store) (env : Env) (k : α → Store → OutS) : (Out.exc x st : Out α).thenS env k = .exc x env st := rfl
@[simp] theorem Out.thenS_stuck {α : Type} (env : Env) (k : α → Store → OutS) : (Out.stuck : Out α).thenS env k = .stuck := rfl
def OutS.seq (o : OutS) (k : FS) : OutS := match o with
  | .next e s => k e s
  | .ret r s => .ret r s
  | .brk e s => .brk e s
  | .cont e s => .cont e s
  | .exc x e s => .exc x e s
  | .stuck => .stuck
@[simp] theorem OutS.seq_next (e : Env) (s : Store) (k : FS) : (OutS.next e s).seq k = k e s := rfl
@[simp] theorem OutS.seq_ret (r : R) (s : Store) (k : FS) : (OutS.ret r s).seq k = .ret r s := rfl
@[simp] theorem OutS.seq_brk (e : Env) (s : Store) (k : FS) : (OutS.brk e s).seq k = .brk e s := rfl
@[simp] theorem OutS.seq_cont (e : Env) (s : Store) (k : FS) : (OutS.cont e s).seq k = .cont e s := rfl
@[simp] theorem OutS.seq_exc (x : Ex) (e : Env) (s : Store) (k : FS) : (OutS.exc x e s).seq k = .exc x e s := rfl
@[simp] theorem OutS.seq_stuck (k : FS) : OutS.stuck.seq k = .stuck := rfl

def PostS (M : Md) (W : WX) (H : Hp) (φ : List Addr) (D : Ends) (o : OutS) : Prop :=
  match o with
  | .next e s => ∀ H' φ' σ', Ext H φ H' φ' → At M σ' H' e s φ' → D.nx σ' H'
  | .ret r s => ∀ H' φ' v, Ext H φ H' φ' → RS M.P M.w M.K H' φ' s → RR M.P M.w M.K H H' φ' r v → D.rt v H'
  | .brk e s => ∀ H' φ' σ', Ext H φ H' φ' → At M σ' H' e s φ' → D.bk σ' H'
  | .cont e s => ∀ H' φ' σ', Ext H φ H' φ' → At M σ' H' e s φ' → D.ct σ' H'
  | .exc x e s => ∀ H' φ' σ' c d, Ext H φ H' φ' → At M σ' H' e s φ' → RX M.mg M.K H' φ' x c d → W c d σ' H'
  | .stuck => False
def tS (M : Md) (W : WX) (g : FS) : TS := fun D σ H => ∃ env st φ, At M σ H env st φ ∧ PostS M W H φ D (g env st)
abbrev SS (X : Cx) (W : WX) (st : Stmt) (g : FS) : Prop := PS X st (tS X.md W g)
abbrev SSs (X : Cx) (W : WX) (sts : List Stmt) (g : FS) : Prop := PSs X sts (tS X.md W g)
theorem ps_imp {X : Cx} {s : Stmt} {t t' : TS} (h : PS X s t) (i : ∀ D σ H, t' D σ H → t D σ H) : PS X s t' := ⟨fun pins s σ H D I q => h.run pins s σ H D I (i D σ H q)⟩
theorem pss_imp {X : Cx} {s : List Stmt} {t t' : TS} (h : PSs X s t) (i : ∀ D σ H, t' D σ H → t D σ H) : PSs X s t' := ⟨fun pins s σ H D I q => h.run pins s σ H D I (i D σ H q)⟩
section
variable {M : Md} {W : WX} {H H1 : Hp} {φ φ1 : List Addr} {D D' : Ends} {o : OutS} {σ : L2.St} {env : Env} {st : Store}
theorem PostS.rebase (h : PostS M W H φ D o) (e : Ext H φ H1 φ1) : PostS M W H1 φ1 D o := by
  cases o with
  | next _ _ => exact fun H' φ' σ' e' => h H' φ' σ' (e.trans e')
  | ret _ _ => exact fun H' φ' v e' s r => h H' φ' v (e.trans e') s (r.from_ e)
  | brk _ _ => exact fun H' φ' σ' e' => h H' φ' σ' (e.trans e')
  | cont _ _ => exact fun H' φ' σ' e' => h H' φ' σ' (e.trans e')
  | exc _ _ _ => exact fun H' φ' σ' c d e' => h H' φ' σ' c d (e.trans e')
  | stuck => exact h
/-- the same end -/
theorem PostS.mono (h : PostS M W H φ D o) (nx : ∀ σ H, D.nx σ H → D'.nx σ H) (rt : ∀ v H, D.rt v H → D'.rt v H) (bk : ∀ σ H, D.bk σ H → D'.bk σ H) (ct : ∀ σ H, D.ct σ H → D'.ct σ H) : PostS M W H φ D' o := by
  cases o with
  | next _ _ => exact fun H' φ' σ' e a => nx _ _ (h H' φ' σ' e a)
  | ret _ _ => exact fun H' φ' v e s r => rt _ _ (h H' φ' v e s r)
  | brk _ _ => exact fun H' φ' σ' e a => bk _ _ (h H' φ' σ' e a)
  | cont _ _ => exact fun H' φ' σ' e a => ct _ _ (h H' φ' σ' e a)
  | exc _ _ _ => exact h
  | stuck => exact h
theorem PostS.bind {α : Type} {o : Out α} {k : α → Store → OutS} (a : At M σ H env st φ) (h : PostS M W H φ D (o.thenS env k)) : Post M W H φ σ o fun x _ _ st1 => PostS M W H φ D (k x st1) := by
  cases o with
  | ok x s => exact fun _ _ _ _ => h
  | exc x s => exact fun H' φ' c d e rs rx => h H' φ' σ c d e ⟨a.re.mono e.mono, rs⟩ rx
  | stuck => exact h
/-- an expression's value, then k -/
theorem tE_then {f : FE} {k : R → Store → OutS} {G : V → Hp → Prop} (a : At M σ H env st φ) (h : PostS M W H φ D ((f env st).thenS env k))
    (g : ∀ r st1 H1 φ1 v, Ext H φ H1 φ1 → At M σ H1 env st1 φ1 → RR M.P M.w M.K H H1 φ1 r v → PostS M W H φ D (k r st1) → G v H1) : tE M W f σ H G :=
  ⟨env, st, φ, a, (PostS.bind a h).mono fun r H1 φ1 st1 e s q v rr => g r st1 H1 φ1 v e (a.then e s) rr q⟩
end

/-! ### blocks, small statements -/
def fSkip : FS := fun env st => .next env st
def fSeq (g h : FS) : FS := fun env st => (g env st).seq h
def fExpr (f : FE) : FS := fun env st => (f env st).thenS env fun _ st1 => .next env st1
def fRet (f : FE) : FS := fun env st => (f env st).thenS env fun r st1 => .ret r st1
def fRetN : FS := fun _ st => .ret (.v .non) st
def fIfS (c : FB) (g h : FS) : FS := fun env st => (c env st).thenS env fun b st1 => if b = true then g env st1 else h env st1
def fSet (i : Nat) (f : FE) : FS := fun env st => (f env st).thenS env fun r st1 => .next (env.set i (some (alloc r st1).1)) (alloc r st1).2
def fBrk : FS := fun env st => .brk env st
def fCont : FS := fun env st => .cont env st
section
variable {X : Cx} {W : WX} {s : Stmt} {rest : List Stmt} {g h : FS} {e : Expr} {f : FE} {pos : Pos}
theorem sss_nil : SSs X W [] fSkip := pss_imp pss_nil fun D σ H ⟨env, st, φ, a, q⟩ => q H φ σ Ext.refl a
theorem sss_cons (h1 : SS X W s g) (h2 : SSs X W rest h) : SSs X W (s :: rest) (fSeq g h) := by
  refine pss_imp (pss_cons h1 h2) fun D σ H ⟨env, st, φ, a, q⟩ => ?_
  refine ⟨env, st, φ, a, ?_⟩
  unfold fSeq at q
  cases o : g env st with
  | next e s => rw [o] at q; exact fun H' φ' σ' e' a' => ⟨_, _, φ', a', PostS.rebase (o := h _ _) q e'⟩
  | ret r s => rw [o] at q; exact q
  | brk e s => rw [o] at q; exact q
  | cont e s => rw [o] at q; exact q
  | exc x e s => rw [o] at q; exact q
  | stuck => rw [o] at q; exact q
theorem sss_one (h1 : SS X W s g) : SSs X W [s] g := pss_one h1
theorem ss_pass : SS X W (.Pass pos) fSkip := ps_imp ps_pass fun D σ H ⟨env, st, φ, a, q⟩ => q H φ σ Ext.refl a
theorem ss_brk : SS X W (.Break pos) fBrk := ps_imp ps_break fun D σ H ⟨env, st, φ, a, q⟩ => q H φ σ Ext.refl a
theorem ss_cont : SS X W (.Continue pos) fCont := ps_imp ps_continue fun D σ H ⟨env, st, φ, a, q⟩ => q H φ σ Ext.refl a
theorem ss_expr (he : SE X W e f) (hs : swapsWith e none pos.line X.env = pure false := by rfl) : SS X W (.Expr e pos) (fExpr f) := by
  refine ps_imp (ps_expr he hs) fun D σ H ⟨env, st, φ, a, q⟩ => ?_
  exact tE_then a q fun r st1 H1 φ1 v e1 a1 rv q1 => q1 H1 φ1 σ e1 a1
theorem ss_ret (he : SE X W e f) : SS X W (.Return (some e) pos) (fRet f) := by
  refine ps_imp (ps_ret he) fun D σ H ⟨env, st, φ, a, q⟩ => ?_
  exact tE_then a q fun r st1 H1 φ1 v e1 a1 rv q1 => q1 H1 φ1 v e1 a1.rs rv
theorem ss_retN : SS X W (.Return none pos) fRetN := ps_imp ps_retN fun D σ H ⟨env, st, φ, a, q⟩ => q H φ .non Ext.refl a.rs .non
theorem ss_if {c : Expr} {x y : List Stmt} {fc : FB} (hc : SB X W c fc) (hx : SSs X W x g) (hy : SSs X W y h) : SS X W (.If c x y pos) (fIfS fc g h) := by
  refine ps_imp (ps_if hc hx hy) fun D σ H ⟨env, st, φ, a, q⟩ => ?_
  refine ⟨env, st, φ, a, (PostS.bind a q).mono fun b H1 φ1 st1 e1 s1 q1 => ?_⟩
  cases b with
  | true => exact ⟨env, st1, φ1, a.then e1 s1, PostS.rebase (o := g env st1) q1 e1⟩
  | false => exact ⟨env, st1, φ1, a.then e1 s1, PostS.rebase (o := h env st1) q1 e1⟩
theorem RE.set {K : PySem.W.Frag} {H : Hp} {φ : List Addr} {env : Env} {σ : L2.St} {i : Nat} {d : D} {v : V} (r : RE K H φ env σ) (h : RD K H φ d v) : RE K H φ (env.set i (some d)) (σ.set i (some v)) := by
  refine ⟨by simp [r.len], fun j d' e => ?_⟩
  by_cases q : i = j
  · subst q
    by_cases hi : i < env.length
    · rw [List.getElem?_set_self hi] at e
      cases e
      exact ⟨v, by rw [List.getElem?_set_self (by rw [← r.len]; exact hi)], h⟩
    · rw [List.getElem?_eq_none (by simp; omega)] at e; cases e
  · rw [List.getElem?_set_ne q] at e
    obtain ⟨v', e1, r1⟩ := r.get j d' e
    exact ⟨v', by rw [List.getElem?_set_ne q]; exact e1, r1⟩
/-- behind a store of a result -/
theorem set_ok {M : Md} {σ : L2.St} {H0 H H1 : Hp} {φ0 φ φ1 : List Addr} {env : Env} {st st1 : Store} {r : R} {v : V} {i : Nat} (a1 : At M σ H1 env st1 φ1) (e : Ext H φ H1 φ1) (rv : RR M.P M.w M.K H H1 φ1 r v) :
    ∃ φ2, Ext H φ H1 φ2 ∧ At M (σ.set i (some v)) H1 (env.set i (some (alloc r st1).1)) (alloc r st1).2 φ2 := by
  obtain ⟨φ2, s2, r2, e2, m2⟩ := alloc_ok a1.rs rv e
  exact ⟨φ2, e2, (a1.re.mono m2).set r2, s2⟩
theorem ss_set {i : Nat} {x : Str} {pos' : Pos} (hN : X.N.Nodup) (hi : X.N[i]? = some x) (hx : Loc X.env.scope x) (he : SE X W e f) (hs : swapsWith e (some (.Name x pos')) pos.line X.env = pure false := by rfl) (hf : X.fn x = true ∨ X.env.scope.names.lookup x = some .local := by first | exact .inl rfl | exact .inr rfl | assumption) :
    SS X W (.Assign [.Name x pos'] e pos) (fSet i f) := by
  refine ps_imp (ps_set hN hi hx he hs hf) fun D σ H ⟨env, st, φ, a, q⟩ => ?_
  refine tE_then a q fun r st1 H1 φ1 v e1 a1 rv q1 => ?_
  obtain ⟨φ2, e2, a2⟩ := set_ok (H0 := H) (φ0 := φ) (st := st) (i := i) a1 e1 rv
  exact q1 H1 φ2 _ e2 a2
end

/-! ### targets -/
abbrev FG := D → Env → Option Env
def tG (M : Md) (f : FG) : TG := fun v σ H Q => ∃ env st φ d env', At M σ H env st φ ∧ RD M.K H φ d v ∧ f d env = some env' ∧ ∀ σ', At M σ' H env' st φ → Q σ' H
abbrev SG (X : Cx) (tg : Expr) (f : FG) : Prop := PG X tg (tG X.md f)
abbrev FGs := List D → Env → Option Env
def tGs (M : Md) (f : FGs) : TGs := fun vs σ H Q => ∃ env st φ ds env', At M σ H env st φ ∧ RDs M.K H φ ds vs ∧ f ds env = some env' ∧ ∀ σ', At M σ' H env' st φ → Q σ' H
abbrev SGs (X : Cx) (ts : List Expr) (f : FGs) : Prop := PGs X ts (tGs X.md f)
def tgN (i : Nat) : FG := fun d env => some (env.set i (some d))
def tgNil : FGs := fun ds env => if ds.isEmpty then some env else none
def tgCons (f : FG) (g : FGs) : FGs := fun ds env => match ds with
  | [] => none
  | d :: ds => (f d env).bind (g ds)
def tgT (g : FGs) : FG := fun d env => match d with
  | .tup ds => g ds env
  | _ => none
section
variable {X : Cx} {pos : Pos}
theorem pg_imp {tg : Expr} {t t' : TG} (h : PG X tg t) (i : ∀ v σ H Q, t' v σ H Q → t v σ H Q) : PG X tg t' := ⟨fun pins s σ H v u Q I r q => h.run pins s σ H v u Q I r (i v σ H Q q)⟩
theorem pgs_imp {tg : List Expr} {t t' : TGs} (h : PGs X tg t) (i : ∀ v σ H Q, t' v σ H Q → t v σ H Q) : PGs X tg t' := ⟨fun pins s σ H v u Q I r q => h.run pins s σ H v u Q I r (i v σ H Q q)⟩
theorem sg_name {i : Nat} {x : Str} (hN : X.N.Nodup) (hi : X.N[i]? = some x) (hx : Loc X.env.scope x) (hf : X.fn x = true ∨ X.env.scope.names.lookup x = some .local := by first | exact .inl rfl | exact .inr rfl | assumption) : SG X (.Name x pos) (tgN i) :=
  pg_imp (pg_name hN hi hx hf) fun v σ H Q ⟨env, st, φ, d, env', a, r, e, q⟩ => by
    cases e
    exact q _ ⟨a.re.set r, a.rs⟩
theorem sgs_nil : SGs X [] tgNil := pgs_imp pgs_nil fun v σ H Q ⟨env, st, φ, ds, env', a, r, e, q⟩ => by
  unfold tgNil at e
  split at e
  · cases e
    rename_i z
    cases r with
    | nil => exact ⟨rfl, q _ a⟩
    | cons _ _ => cases z
  · cases e
theorem sgs_cons {e : Expr} {es : List Expr} {f : FG} {g : FGs} (h1 : SG X e f) (h2 : SGs X es g)
    (hs : (assignEach (e :: es) X.env).map (·.2) = assign e X.env :: (assignEach es X.env).map (·.2) := by rfl) : SGs X (e :: es) (tgCons f g) :=
  pgs_imp (pgs_cons h1 h2 hs) fun v σ H Q ⟨env, st, φ, ds, env', a, r, e, q⟩ => by
    cases r with
    | nil => cases e
    | @cons d ds v vs h t =>
      cases e1 : f d env with
      | none => simp [tgCons, e1] at e
      | some env1 =>
        simp only [tgCons, e1, Option.bind_some] at e
        exact ⟨v, vs, rfl, env, st, φ, d, env1, a, h, e1, fun σ' a' => ⟨env1, st, φ, ds, env', a', t, e, q⟩⟩
theorem sg_tup {es : List Expr} {k : Nat} {g : FGs} {n : Nat} (hc : X.calm = true) (h : SGs X es g) (hl : ∀ ds env env', g ds env = some env' → ds.length = n)
    (hn : (assignEach es X.env).length = n := by rfl) (hst : (assignEach es X.env).findIdx? (·.1) = none := by rfl) : SG X (.Tuple es k pos) (tgT g) :=
  pg_imp (pg_tup hc h hn hst) fun v σ H Q ⟨env, st, φ, d, env', a, r, e, q⟩ => by
    cases r with
    | @tup b vs ds ht hr =>
      exact ⟨b, vs, rfl, SqT.of ht, by rw [← hr.length]; exact hl ds env env' e, env, st, φ, ds, env', a, hr, e, q⟩
    | _ => cases e
theorem len_nil : ∀ ds env env', tgNil ds env = some env' → ds.length = 0 := fun ds env env' e => by
  unfold tgNil at e
  split at e
  · rename_i z; cases ds with
    | nil => rfl
    | cons _ _ => cases z
  · cases e
theorem len_cons {f : FG} {g : FGs} {n : Nat} (h : ∀ ds env env', g ds env = some env' → ds.length = n) : ∀ ds env env', tgCons f g ds env = some env' → ds.length = n + 1 := fun ds env env' e => by
  cases ds with
  | nil => cases e
  | cons d ds =>
    cases e1 : f d env with
    | none => simp [tgCons, e1] at e
    | some env1 =>
      simp only [tgCons, e1, Option.bind_some] at e
      simp [h _ _ _ e]
end
/-- target = value (a tuple target) -/
def fAsg (g : FG) (f : FE) : FS := fun env st => (f env st).thenS env fun r st1 => match g (alloc r st1).1 env with
  | some env' => .next env' (alloc r st1).2
  | none => .stuck
theorem ss_asg {X : Cx} {W : WX} {tg e : Expr} {f : FE} {g : FG} {pos : Pos} (he : SE X W e f) (hg : SG X tg g) (hs : swapsWithSole [tg] e pos.line X.env = pure false := by rfl) (hw : swappedStores [tg] e X.env = pure none := by rfl)
    (h1 : (assignEach [tg] X.env).map (·.2) = [assign tg X.env] := by rfl) : SS X W (.Assign [tg] e pos) (fAsg g f) := by
  refine ps_imp (ps_asg he hg hs hw h1) fun D σ H ⟨env, st, φ, a, q⟩ => ?_
  refine tE_then a q fun r st1 H1 φ1 v e1 a1 rv q1 => ?_
  obtain ⟨φ2, s2, r2, e2, m2⟩ := alloc_ok a1.rs rv e1
  split at q1
  · rename_i env' eg
    exact ⟨env, _, φ2, _, env', ⟨a1.re.mono m2, s2⟩, r2, eg, fun σ' a' => q1 H1 φ2 σ' e2 a'⟩
  · exact q1.elim

/-! ### a, b = x, y -/
def fPar (i j : Nat) (g : FA) : FS := fun env st => (g env st).thenS env fun ds st1 => match ds with
  | [d, e] => .next ((env.set i (some d)).set j (some e)) st1
  | _ => .stuck
theorem ss_par {X : Cx} {W : WX} {i j : Nat} {x y : Str} {a b : Expr} {g : FA} {px py pt pos : Pos} {kt k2 : Nat} {pt2 : Pos} (hc : X.calm = true) (hN : X.N.Nodup) (hi : X.N[i]? = some x) (hj : X.N[j]? = some y) (hij : i ≠ j)
    (hx : X.env.scope.names.lookup x = some .local) (hy : X.env.scope.names.lookup y = some .local) (ha : SA X W [a, b] g)
    (hw : swappedStores [.Tuple [.Name x px, .Name y py] kt pt] (.Tuple [a, b] k2 pt2) X.env = pure (some [x, y]))
    (hs : swapsWithSole [.Tuple [.Name x px, .Name y py] kt pt] (.Tuple [a, b] k2 pt2) pos.line X.env = pure false := by rfl) :
    SS X W (.Assign [.Tuple [.Name x px, .Name y py] kt pt] (.Tuple [a, b] k2 pt2) pos) (fPar i j g) := by
  refine ps_imp (ps_par hc hN hi hj hij hx hy ha hw hs) fun D σ H ⟨env, st, φ, a, q⟩ => ?_
  refine ⟨env, st, φ, a, (PostS.bind a q).mono fun ds H1 φ1 st1 e1 s1 q1 vs rv => ?_⟩
  split at q1
  · cases rv with
    | cons h1 t1 =>
      cases t1 with
      | cons h2 t2 =>
        cases t2
        exact ⟨_, _, rfl, q1 H1 φ1 _ e1 ⟨((a.re.mono e1.mono).set h1).set h2, s1⟩⟩
  · exact q1.elim

/-! ### writes -/
theorem Ext.write {P : Program} {w : World} {K : PySem.W.Frag} {H : Hp} {φ : List Addr} {o : O} {a : Addr} {n : Nat} {ho : HO} (r : RO P w K H φ o a) (h : φ[n]? = some a) : Ext H φ (upd H a ho) φ where
  pre := ⟨[], by simp, by simp⟩
  tup := fun b xs q => by
    by_cases e : b = a
    · subst e; exact (r.notT xs q).elim
    · rw [upd_ne e]; exact q
  frz := fun b ob u q => by
    by_cases e : b = a
    · subst e; exact (r.notF ob u q).elim
    · rw [upd_ne e]; exact q
  keep := fun b u q nb => by
    have e : b ≠ a := fun e => nb (by subst e; exact List.mem_of_getElem? h)
    rw [upd_ne e]; exact q
  trk := fun b u q => by
    by_cases e : b = a
    · subst e; exact ⟨_, upd_same⟩
    · exact ⟨u, by rw [upd_ne e]; exact q⟩
theorem ROs.put {P : Program} {w : World} {K : PySem.W.Frag} {H H' : Hp} {φ : List Addr} {o' : O} {a : Addr} (m : Mono K H φ H' φ) (k : ∀ b, b ≠ a → ∀ ho, H b = some ho → H' b = some ho) (r : RO P w K H' φ o' a) :
    ∀ {st : Store} {as : List Addr} {n : Nat}, ROs P w K H φ st as → as[n]? = some a → as.Nodup → ROs P w K H' φ (st.set n o') as
  | _, _, _, .nil, h, _ => by simp at h
  | _, _, 0, .cons h t, e, nd => by
    simp at e; subst e
    have nm := (List.nodup_cons.mp nd).1
    exact .cons r (t.stay m fun b hb ho q => k b (fun z => nm (z ▸ hb)) ho q)
  | _, _, n + 1, .cons h t, e, nd => by
    have e' := (by simpa using e : _)
    have nm := (List.nodup_cons.mp nd).1
    refine .cons (h.stay m fun ho q => k _ (fun z => nm (by rw [z]; exact List.mem_of_getElem? e')) ho q) ?_
    exact ROs.put m k r t e' (List.nodup_cons.mp nd).2
theorem RS.write {P : Program} {w : World} {K : PySem.W.Frag} {H : Hp} {φ : List Addr} {st : Store} {o o' : O} {a : Addr} {n : Nat} {ho : HO} (s : RS P w K H φ st) (h : φ[n]? = some a) (r : RO P w K H φ o a) (r' : RO P w K (upd H a ho) φ o' a) :
    RS P w K (upd H a ho) φ (st.set n o') :=
  ⟨s.nd, s.os.put (Ext.write (o := o) r h).mono (fun b e u q => by rw [upd_ne e]; exact q) r' h s.nd⟩

/-! ### o[i] = e -/
/-- the store behind o[i] = d -/
def putAt (ro : R) (k : R) (d : D) (st : Store) : Option Store := match ro, k with
  | .v (.ref n), .v k => match st[n]? with
    | some (.lst xs) => match k with
      | .int i => (ixN xs.length i).map fun j => st.set n (.lst (xs.set j d))
      | _ => none
    | some (.dK kvs) => if kvs.length < 1000000 then k.key.map fun k => st.set n (.dK (putD kvs k d)) else none
    | some (.dT kvs) => if kvs.length < 1000000 then k.keyT.map fun k => st.set n (.dT (putD kvs k d)) else none
    | _ => none
  | _, _ => none
def fPut (f fo fi : FE) : FS := fun env st => (f env st).thenS env fun r st1 => (fo env (alloc r st1).2).thenS env fun ro st2 => (fi env st2).thenS env fun rk st3 => match putAt ro rk (alloc r st1).1 st3 with
  | some st4 => .next env st4
  | none => .stuck
section
variable {X : Cx} {W : WX}
def rSetD : TSet := fun o i v H Q => ∃ a H', o = .ref a ∧ DPut H a i v H' ∧ Q H'
theorem set_dict (C : Cd X) : PSet X rSetD := by
  rintro pins s σ H o i v ov iv u Q I ro ri rv ⟨a, H', rfl, g, q⟩
  obtain rfl : ov = Value.ref a := ro
  have hu := C.hu
  exact d_setItem (by omega) I g ri rv fun s3 I3 => ⟨H', I3, q⟩
theorem PSet.or {t t' : TSet} (h : PSet X t) (h' : PSet X t') : PSet X (fun o i v H Q => t o i v H Q ∨ t' o i v H Q) := by
  intro pins s σ H o i v ov iv u Q I ro ri rv q
  rcases q with q | q
  · exact h pins s σ H o i v ov iv u Q I ro ri rv q
  · exact h' pins s σ H o i v ov iv u Q I ro ri rv q
def rSet2 : TSet := fun o i v H Q => rSetL o i v H Q ∨ rSetD o i v H Q
theorem set_any (C : Cd X) : PSet X rSet2 := PSet.or set_list (set_dict C)
theorem putAt_ok {M : Md} {H H0 H0' : Hp} {φ : List Addr} {st st' : Store} {ro rk : R} {d : D} {o i v : V} {Q : Hp → Prop} (s : RS M.P M.w M.K H φ st) (h1 : RR M.P M.w M.K H0 H φ ro o) (h2 : RR M.P M.w M.K H0' H φ rk i) (h3 : RD M.K H φ d v) (e : putAt ro rk d st = some st')
    (q : ∀ H', Ext H φ H' φ → RS M.P M.w M.K H' φ st' → Q H') : rSet2 o i v H Q := by
  unfold putAt at e
  split at e
  · rename_i n k
    obtain ⟨a, ob, rfl, e1, e2, r⟩ := s.of_ref h1
    simp only [e2] at e
    cases r with
    | lst hq t =>
      rename_i xs vs
      simp only at e
      split at e
      · rename_i j
        cases e3 : ixN xs.length j with
        | none => rw [e3] at e; cases e
        | some m =>
          rw [e3] at e; cases e
          rw [int_ok h2]
          have ew : Ext H φ (upd H a (.lst (vs.set m v))) φ := Ext.write (.lst hq t : RO M.P M.w M.K H φ _ a) e1
          refine .inl ⟨a, vs, j, m, rfl, rfl, hq, by rw [← t.length]; exact e3, q _ ew (s.write e1 (.lst hq t) (.lst upd_same ?_))⟩
          exact (t.mono ew.mono).set (h3.mono ew.mono) m
      · cases e
    | dK hq t =>
      rename_i kvs kws
      simp only at e
      split at e
      · rename_i hl
        cases e3 : k.key with
        | none => rw [e3] at e; cases e
        | some k' =>
          rw [e3] at e; cases e
          have ei : i = kV k' := key_ok h2 e3
          subst ei
          have ew : Ext H φ (upd H a (.dK (putK kws k' v))) φ := Ext.write (.dK hq t : RO M.P M.w M.K H φ _ a) e1
          refine .inr ⟨a, _, rfl, DPut.k hq (by rw [← t.length]; exact line_of' hl), q _ ew (s.write e1 (.dK hq t) (.dK upd_same ?_))⟩
          exact (t.mono ew.mono).put k' (h3.mono ew.mono)
      · cases e
    | dT hq t =>
      rename_i kvs kws
      simp only at e
      split at e
      · rename_i hl
        cases e3 : k.keyT with
        | none => rw [e3] at e; cases e
        | some k' =>
          rw [e3] at e; cases e
          cases k with
          | tup xs =>
            cases h2 with
            | tup hq2 hr2 =>
              rename_i b ws
              have ev := keys_ok hr2 e3
              subst ev
              have ew : Ext H φ (upd H a (.dT (putK kws k' v))) φ := Ext.write (.dT hq t : RO M.P M.w M.K H φ _ a) e1
              refine .inr ⟨a, _, rfl, DPut.t hq hq2 (by rw [← t.length]; exact line_of' hl), q _ ew (s.write e1 (.dT hq t) (.dT upd_same ?_))⟩
              exact (t.mono ew.mono).put k' (h3.mono ew.mono)
          | _ => cases e3
      · cases e
    | sT _ _ _ => simp only at e; cases e
    | sI _ _ _ _ => simp only at e; cases e
  · cases e
theorem ss_put {o i e : Expr} {fo fi f : FE} {pos pos' : Pos} (C : Cd X) (he : SE X W e f) (ho : SE X W o fo) (hi : SE X W i fi)
    (ha : ∀ v, assign (.Subscript o i pos') X.env v = (do
      let ov ← holding [v] (eval o X.env)
      let iv ← holding [v, ov] (eval i X.env)
      standAt pos'
      holding [v, ov, iv] (setItem ov iv v)
      release [v, ov, iv] []) := by intro _; rfl)
    (hs : swapsWithSole [.Subscript o i pos'] e pos.line X.env = pure false := by rfl) (hw : swappedStores [.Subscript o i pos'] e X.env = pure none := by rfl)
    (h1 : (assignEach [.Subscript o i pos'] X.env).map (·.2) = [assign (.Subscript o i pos') X.env] := by rfl) : SS X W (.Assign [.Subscript o i pos'] e pos) (fPut f fo fi) := by
  refine ps_imp (ps_asg he (pg_sub ho hi (set_any C) ha) hs hw h1) fun D σ H ⟨env, st, φ, a, q⟩ => ?_
  refine tE_then a q fun r st1 H1 φ1 v e1 a1 rv q1 => ?_
  obtain ⟨φ1', s1', r1', e1', m1'⟩ := alloc_ok a1.rs rv e1
  have a1' : At X.md σ H1 env (alloc r st1).2 φ1' := ⟨a1.re.mono m1', s1'⟩
  refine tE_then a1' (PostS.rebase q1 e1') fun ro st2 H2 φ2 o' e2 a2 rro q2 => ?_
  refine tE_then a2 (PostS.rebase q2 e2) fun rk st3 H3 φ3 i' e3 a3 rrk q3 => ?_
  split at q3
  · rename_i st4 e4
    refine putAt_ok (M := X.md) a3.rs (rro.mono e3) rrk ((r1'.mono e2.mono).mono e3.mono) e4 fun H' e5 s5 => ?_
    exact q3 H' φ3 σ (e3.trans e5) (a3.then e5 s5)
  · exact q3.elim
end
end Fx

set_option Elab.async false
set_option linter.all false
set_option maxRecDepth 100000
set_option maxHeartbeats 4000000
set_option autoImplicit false
/-! Fx, part H: what is walked; for, while, comprehensions. -/
namespace Fx
open PySem PySem.Spec PyProof.Rows L2

/-- the items walked; ok: what must stand as it is while they are walked -/
structure Sq where
  xs : List D
  ok : Store → Prop
/-- nothing is asked of the store -/
abbrev Sq.any : Store → Prop := fun _ => True
/-- a list of the store stands so -/
def Sq.at (n : Nat) (xs : List D) : Store → Prop := fun st => st[n]? = some (.lst xs)
abbrev FI := Env → Store → Out Sq
/-- the walk J, from (H0, φ0) on, gives these items -/
structure Src (M : Md) (H0 : Hp) (φ0 : List Addr) (q : Sq) (J : It) : Prop where
  goes : ∀ i H φ st, i < q.xs.length → Ext H0 φ0 H φ → RS M.P M.w M.K H φ st → q.ok st → J.go i H
  stops : ∀ H φ st, Ext H0 φ0 H φ → RS M.P M.w M.K H φ st → q.ok st → J.stop q.xs.length H
  yields : ∀ i H φ st x H', i < q.xs.length → Ext H0 φ0 H φ → RS M.P M.w M.K H φ st → q.ok st → J.yld i H x H' → Ext H φ H' φ ∧ RS M.P M.w M.K H' φ st ∧ ∃ d, q.xs[i]? = some d ∧ RD M.K H' φ d x
def tI (M : Md) (W : WX) (f : FI) : TI := fun σ H R => ∃ env st φ, At M σ H env st φ ∧ Post M W H φ σ (f env st) fun q H' φ' _ => ∀ J, Src M H' φ' q J → R J H'
abbrev SI (X : Cx) (W : WX) (tg iter : Expr) (f : FI) : Prop := PI X tg iter (tI X.md W f)
theorem pi_imp {X : Cx} {tg e : Expr} {t t' : TI} (h : PI X tg e t) (i : ∀ σ H Q, t' σ H Q → t σ H Q) : PI X tg e t' := ⟨fun pins s σ H Q I q => h.run pins s σ H Q I (i σ H Q q)⟩
theorem tE_src {M : Md} {W : WX} {σ : L2.St} {H : Hp} {env : Env} {st : Store} {φ : List Addr} {f : FE} {k : R → Store → Out Sq} {G : V → Hp → Prop} {S : Sq → Hp → List Addr → Store → Prop} (a : At M σ H env st φ) (h : Post M W H φ σ ((f env st).bind k) S)
    (g : ∀ r st1 H1 φ1 v, Ext H φ H1 φ1 → At M σ H1 env st1 φ1 → RR M.P M.w M.K H H1 φ1 r v → Post M W H1 φ1 σ (k r st1) S → G v H1) : tE M W f σ H G :=
  ⟨env, st, φ, a, (Post.bind h).mono fun r H1 φ1 st1 e s q v rr => g r st1 H1 φ1 v e (a.then e s) rr q⟩

/-! ### a list or a tuple -/
def sqOf (r : R) (st : Store) : Out Sq := match r with
  | .v (.tup xs) => .ok ⟨xs, Sq.any⟩ st
  | .v (.ref n) => match st[n]? with
    | some (.lst xs) => .ok ⟨xs, Sq.at n xs⟩ st
    | _ => .stuck
  | r => match seqL st r with
    | some xs => .ok ⟨xs, Sq.any⟩ st
    | none => .stuck
def fIt (f : FE) : FI := fun env st => (f env st).bind sqOf
def iSeq (K : PySem.W.Frag) (tl : TE) : TI := fun σ H R => tl σ H fun x H1 => ∃ a, x = .ref a ∧ (((∃ xs, SqL K H1 a xs) ∧ R (Itl K a) H1) ∨ ((∃ xs, SqT K H1 a xs) ∧ R (Itt K a) H1))
theorem pi_seq {X : Cx} {tg l : Expr} {tl : TE} (hl : PE X l tl) : PI X tg l (iSeq X.K tl) := by
  refine ⟨fun pins s σ H R I h => ?_⟩
  refine thn (hl.run pins s σ H _ I h) fun v s1 ⟨x, H1, I1, r1, q1⟩ => ?_
  obtain ⟨a, e, ⟨⟨xs, hq⟩, q⟩ | ⟨⟨xs, hq⟩, q⟩⟩ := q1
  · subst e
    cases r1
    obtain ⟨its, rv, p, hz⟩ := I1.list hq
    refine wpAny_pyIter_list p.isList ?_
    refine ⟨s1.heap.objs.size, [s1.heap.objs.size], _, _, H1, rfl, I1.kept (t' := s1.toks) fun b o e => Heap.get?_push_of_some _ e, turn_list a _, ⟨_, Heap.get?_push_size _ rfl, rfl, rfl⟩, fun b hb => ?_, q⟩
    have e : b = s1.heap.objs.size := by simpa using hb
    subst e
    exact I1.fpOk (Nat.le_refl _) (I1.hok.fresh (Nat.le_refl _))
  · subst e
    cases r1
    obtain ⟨its, rv, p, hz⟩ := I1.tuple hq
    refine wpAny_pyIter_tuple (show s1.heap.IsTuple a its.toArray from p) ?_
    refine ⟨s1.heap.objs.size, [s1.heap.objs.size], _, _, H1, rfl, I1.kept (t' := s1.toks) fun b o e => Heap.get?_push_of_some _ e, turn_tuple a _, ⟨_, Heap.get?_push_size _ rfl, rfl, rfl⟩, fun b hb => ?_, q⟩
    have e : b = s1.heap.objs.size := by simpa using hb
    subst e
    exact I1.fpOk (Nat.le_refl _) (I1.hok.fresh (Nat.le_refl _))
section
variable {M : Md} {H0 : Hp} {φ0 : List Addr} {a : Addr} {xs : List D} {vs : List V}
/-- a list that stands still -/
theorem src_list (hs : ∀ H φ, Ext H0 φ0 H φ → SqL M.K H a vs) (t : RDs M.K H0 φ0 xs vs) : Src M H0 φ0 ⟨xs, Sq.any⟩ (Itl M.K a) where
  goes := fun i H φ st hi e s _ => by
    have hl : i < vs.length := by rw [← t.length]; exact hi
    exact ⟨vs, vs[i], hs H φ e, List.getElem?_eq_getElem hl⟩
  stops := fun H φ st e s _ => ⟨vs, hs H φ e, by rw [← t.length]; exact Nat.le_refl _⟩
  yields := fun i H φ st x H' hi e s _ y => by
    obtain ⟨rfl, y⟩ := y
    obtain ⟨d, e1, r⟩ := t.get' (y vs (hs H' φ e))
    exact ⟨Ext.refl, s, d, e1, r.mono e.mono⟩
theorem src_tup (h : H0 a = some (.tup vs)) (t : RDs M.K H0 φ0 xs vs) : Src M H0 φ0 ⟨xs, Sq.any⟩ (Itt M.K a) where
  goes := fun i H φ st hi e s _ => by
    have hl : i < vs.length := by rw [← t.length]; exact hi
    exact ⟨vs, vs[i], SqT.of (e.tup _ _ h), List.getElem?_eq_getElem hl⟩
  stops := fun H φ st e s _ => ⟨vs, SqT.of (e.tup _ _ h), by rw [← t.length]; exact Nat.le_refl _⟩
  yields := fun i H φ st x H' hi e s _ y => by
    obtain ⟨rfl, y⟩ := y
    obtain ⟨d, e1, r⟩ := t.get' (y vs (SqT.of (e.tup _ _ h)))
    exact ⟨Ext.refl, s, d, e1, r.mono e.mono⟩
theorem src_live {n : Nat} (h : φ0[n]? = some a) : Src M H0 φ0 ⟨xs, Sq.at n xs⟩ (Itl M.K a) := by
  have key : ∀ H φ st, Ext H0 φ0 H φ → RS M.P M.w M.K H φ st → Sq.at n xs st → ∃ vs, SqL M.K H a vs ∧ RDs M.K H φ xs vs := fun H φ st e s ok => by
    obtain ⟨o, e1, r⟩ := s.os.get (e.get h)
    have e2 := ok
    unfold Sq.at at e2
    rw [e1] at e2; cases e2
    cases r with
    | lst q t => exact ⟨_, SqL.of q, t⟩
  exact {
    goes := fun i H φ st hi e s ok => by
      obtain ⟨vs, q, t⟩ := key H φ st e s ok
      have hl : i < vs.length := by rw [← t.length]; exact hi
      exact ⟨vs, vs[i], q, List.getElem?_eq_getElem hl⟩
    stops := fun H φ st e s ok => by
      obtain ⟨vs, q, t⟩ := key H φ st e s ok
      exact ⟨vs, q, by rw [← t.length]; exact Nat.le_refl _⟩
    yields := fun i H φ st x H' hi e s ok y => by
      obtain ⟨rfl, y⟩ := y
      obtain ⟨vs, q, t⟩ := key H' φ st e s ok
      obtain ⟨d, e1, r⟩ := t.get' (y vs q)
      exact ⟨Ext.refl, s, d, e1, r⟩ }
theorem src_range {lo : Int} {n : Nat} : Src M H0 φ0 ⟨(List.range n).map fun i => .int (lo + (i : Nat)), Sq.any⟩ (Itr lo n) where
  goes := fun i H φ st hi e s _ => by
    have : i < n := by simpa using hi
    exact this
  stops := fun H φ st e s _ => by
    show n ≤ _
    simp
  yields := fun i H φ st x H' hi e s _ y => by
    obtain ⟨rfl, rfl⟩ := y
    have : i < n := by simpa using hi
    exact ⟨Ext.refl, s, .int (lo + (i : Nat)), by simp [this], .int _⟩
end
theorem si_seq {X : Cx} {W : WX} {tg e : Expr} {f : FE} (he : SE X W e f) : SI X W tg e (fIt f) := by
  refine pi_imp (pi_seq he) fun σ H R ⟨env, st, φ, a, q⟩ => ?_
  refine tE_src a q fun r st1 H1 φ1 v e1 a1 rv q1 => ?_
  unfold sqOf at q1
  split at q1
  · obtain ⟨b, vs, rfl, h, t⟩ := tup_ok rv
    exact ⟨b, rfl, .inr ⟨⟨vs, SqT.of h⟩, q1 H1 φ1 Ext.refl a1.rs _ (src_tup h t)⟩⟩
  · obtain ⟨b, o, rfl, h1, h2, h3⟩ := a1.rs.of_ref rv
    rw [h2] at q1
    cases h3 with
    | lst h t => exact ⟨b, rfl, .inl ⟨⟨_, SqL.of h⟩, q1 H1 φ1 Ext.refl a1.rs _ (src_live h1)⟩⟩
    | _ => exact q1.elim
  · split at q1
    · rename_i xs es
      cases r with
      | o x =>
        obtain ⟨b, rfl, hx, n, z⟩ := rv
        cases hx with
        | lst h t =>
          cases es
          exact ⟨b, rfl, .inl ⟨⟨_, SqL.of h⟩, q1 H1 φ1 Ext.refl a1.rs _ (src_list (fun H φ e => SqL.of (e.keep _ _ h n)) t)⟩⟩
        | _ => cases es
      | v d =>
        cases d with
        | lz ys =>
          cases es
          cases rv with
          | lz h t =>
            exact ⟨_, rfl, .inl ⟨⟨_, h.sq⟩, q1 H1 φ1 Ext.refl a1.rs _ (src_list (fun H φ e => (e.fzL h).sq) t)⟩⟩
        | _ => first | cases es | (rename_i h1 h2; exact (h1 _ rfl).elim) | (rename_i h1 h2; exact (h2 _ rfl).elim)
    · exact q1.elim
/-! ### ranges -/
def rngD (lo : Int) (n : Nat) : List D := (List.range n).map fun i => .int (lo + (i : Nat))
def fRng1 (f : FE) : FI := fun env st => (f env st).bind fun r st1 => match r with
  | .v (.int j) => if j < 1000000000 ∧ -1000000000 < j then .ok ⟨rngD 0 j.toNat, Sq.any⟩ st1 else .stuck
  | _ => .stuck
def fRng2 (f g : FE) : FI := fun env st => (f env st).bind fun r st1 => (g env st1).bind fun r2 st2 => match r, r2 with
  | .v (.int i), .v (.int j) => if (i < 1000000000 ∧ -1000000000 < i) ∧ (j < 1000000000 ∧ -1000000000 < j) then .ok ⟨rngD i (j - i).toNat, Sq.any⟩ st2 else .stuck
  | _, _ => .stuck
section
variable {X : Cx} {W : WX} {tg a b : Expr} {f g : FE} {p pos : Pos}
theorem tE_src2 {M : Md} {σ : L2.St} {H : Hp} {env : Env} {st : Store} {φ : List Addr} {f : FE} {k : R → Store → Out Sq} {G : V → Hp → Prop} {S : Sq → Hp → List Addr → Store → Prop} (a : At M σ H env st φ) (h : Post M W H φ σ ((f env st).bind k) S)
    (g : ∀ r st1 H1 φ1 v, Ext H φ H1 φ1 → At M σ H1 env st1 φ1 → RR M.P M.w M.K H H1 φ1 r v → Post M W H1 φ1 σ (k r st1) S → G v H1) : tE M W f σ H G := tE_src a h g
theorem si_rng1 (hg : Gl X "range") (hm : X.mg "range" = none) (ha : SE X W a f) (hs : starEach [a] X.env = [(false, eval a X.env)] := by rfl) : SI X W tg (.Call (.Name "range" p) [a] [] pos) (fRng1 f) := by
  refine pi_imp (pi_range1 hg hm (pa_cons ha pa_nil hs) hs) fun σ H R ⟨env, st, φ, a, q⟩ => ?_
  refine tE_src a q fun r st1 H1 φ1 v e1 a1 rv q1 => ?_
  split at q1
  · split at q1
    · rename_i j hj
      rw [int_ok rv]
      exact ⟨j, rfl, by omega, by omega, q1 H1 φ1 Ext.refl a1.rs _ src_range⟩
    · exact q1.elim
  · exact q1.elim
theorem si_rng2 (hg : Gl X "range") (hm : X.mg "range" = none) (ha : SE X W a f) (hb : SE X W b g) (hs : starEach [a, b] X.env = [(false, eval a X.env), (false, eval b X.env)] := by rfl) (hs2 : starEach [b] X.env = [(false, eval b X.env)] := by rfl) :
    SI X W tg (.Call (.Name "range" p) [a, b] [] pos) (fRng2 f g) := by
  refine pi_imp (pi_range2 hg hm (pa_cons ha (pa_cons hb pa_nil hs2) (by rw [hs, hs2])) hs hs2) fun σ H R ⟨env, st, φ, a, q⟩ => ?_
  refine tE_src a q fun r st1 H1 φ1 v e1 a1 rv q1 => ?_
  refine tE_src a1 q1 fun r2 st2 H2 φ2 v2 e2 a2 rv2 q2 => ?_
  split at q2
  · split at q2
    · rename_i i j hj
      rw [int_ok rv, int_ok rv2]
      exact ⟨i, j, rfl, by omega, q2 H2 φ2 Ext.refl a2.rs _ src_range⟩
    · exact q2.elim
  · exact q2.elim
end

/-! ### for -/
open Classical in
/-- names that had no value ahead of a loop have none behind it -/
def scope (e0 e : Env) : Env := List.zipWith (fun a b => if a.isNone then none else b) e0 e
theorem RE.scope {K : PySem.W.Frag} {H : Hp} {φ : List Addr} {e0 e : Env} {σ : L2.St} (r : RE K H φ e σ) (h : e0.length = e.length) : RE K H φ (scope e0 e) σ := by
  refine ⟨by unfold Fx.scope; rw [List.length_zipWith, h, Nat.min_self]; exact r.len, fun i d q => ?_⟩
  unfold Fx.scope at q
  rw [List.getElem?_zipWith] at q
  cases e1 : e0[i]? with
  | none => simp [e1] at q
  | some a =>
    cases e2 : e[i]? with
    | none => simp [e1, e2] at q
    | some b =>
      simp only [e1, e2] at q
      have q' : (if a.isNone = true then none else b) = some d := Option.some.inj q
      split at q'
      · cases q'
      · subst q'
        exact r.get i d e2
open Classical in
/-- one turn after another; e0: the names ahead of the loop -/
noncomputable def forL (ok : Store → Prop) (tg : FG) (body : FS) (e0 : Env) : List D → FS
  | [], env, st => if ok st ∧ e0.length = env.length then .next (scope e0 env) st else .stuck
  | d :: ds, env, st => if ok st ∧ e0.length = env.length then
      match tg d (scope e0 env) with
      | some env1 => match body env1 st with
        | .next e s => forL ok tg body e0 ds e s
        | .cont e s => forL ok tg body e0 ds e s
        | .brk e s => if e0.length = e.length then .next (scope e0 e) s else .stuck
        | .ret r s => .ret r s
        | .exc x e s => .exc x e s
        | .stuck => .stuck
      | none => .stuck
    else .stuck
noncomputable def fFor (f : FI) (tg : FG) (body : FS) : FS := fun env st => (f env st).thenS env fun q st1 => forL q.ok tg body env q.xs env st1
section
variable {X : Cx} {W : WX} {tg iter : Expr} {f : FI} {g : FG} {b : FS} {body : List Stmt} {pos : Pos}
theorem Ext.rs_len {P : Program} {w : World} {K : PySem.W.Frag} {H : Hp} {φ : List Addr} {st : Store} (s : RS P w K H φ st) : st.length = φ.length := s.len
theorem ss_for (hp : PassesOwn (model X.prog X.w) X.A X.env X.xe) (hc : X.calm = true) (hi : SI X W tg iter f) (hg : SG X tg g) (hb : SSs X W body b)
    (hs : ∀ x, foldedSetIterable iter X.env x = pure x := by intro _; rfl) : SS X W (.For tg iter body [] pos) (fFor f g b) := by
  refine ps_imp (ps_for hp hc hi hg hb hs) fun D σ H ⟨env, st, φ, a, q⟩ => ?_
  refine ⟨env, st, φ, a, (PostS.bind a q).mono fun q H1 φ1 st1 e1 s1 q1 J src => ?_⟩
  have q1' := PostS.rebase q1 e1
  refine ⟨fun i m σ' H' => m = q.xs.length - i ∧ i ≤ q.xs.length ∧ ∃ env' st' φ', At X.md σ' H' env' st' φ' ∧ Ext H1 φ1 H' φ' ∧ PostS X.md W H' φ' D (forL q.ok g b env (q.xs.drop i) env' st'),
    ⟨q.xs.length, by simp, Nat.zero_le _, env, st1, φ1, a.then e1 s1, Ext.refl, by simpa using q1'⟩, ?_⟩
  rintro i m σ' H' ⟨rfl, hi, env', st', φ', a', e', p⟩
  by_cases hlt : i < q.xs.length
  · have ed : q.xs.drop i = q.xs[i] :: q.xs.drop (i + 1) := List.drop_eq_getElem_cons hlt
    rw [ed] at p
    unfold forL at p
    split at p
    · rename_i c
      obtain ⟨ok, hl⟩ := c
      refine .inr ⟨src.goes i H' φ' st' hlt e' a'.rs ok, fun σ2 H2 => ∃ m', m' < q.xs.length - i ∧ m' = q.xs.length - (i + 1) ∧ i + 1 ≤ q.xs.length ∧ ∃ env2 st2 φ2, At X.md σ2 H2 env2 st2 φ2 ∧ Ext H1 φ1 H2 φ2 ∧ PostS X.md W H2 φ2 D (forL q.ok g b env (q.xs.drop (i + 1)) env2 st2), fun σ2 H2 n => ?_, fun x H2 y => ?_⟩
      · obtain ⟨m', h1, h2⟩ := n
        exact ⟨m', h1, h2⟩
      · obtain ⟨ex, sx, d, ed2, rd⟩ := src.yields i H' φ' st' x H2 hlt e' a'.rs ok y
        have hd : d = q.xs[i] := by rw [List.getElem?_eq_getElem hlt] at ed2; exact (Option.some.inj ed2).symm
        subst hd
        have a2 : At X.md σ' H2 (scope env env') st' φ' := ⟨(a'.re.mono ex.mono).scope hl, sx⟩
        split at p
        · rename_i env1 eg
          refine ⟨_, st', φ', _, env1, a2, rd, eg, fun σ3 a3 => ⟨env1, st', φ', a3, ?_⟩⟩
          have ee : Ext H1 φ1 H2 φ' := e'.trans ex
          have nx : ∀ {e s H4 φ4 σ4}, PostS X.md W H' φ' D (forL q.ok g b env (q.xs.drop (i + 1)) e s) → Ext H2 φ' H4 φ4 → At X.md σ4 H4 e s φ4 →
              ∃ m', m' < q.xs.length - i ∧ m' = q.xs.length - (i + 1) ∧ i + 1 ≤ q.xs.length ∧ ∃ env2 st2 φ2, At X.md σ4 H4 env2 st2 φ2 ∧ Ext H1 φ1 H4 φ2 ∧ PostS X.md W H4 φ2 D (forL q.ok g b env (q.xs.drop (i + 1)) env2 st2) :=
            fun {e s H4 φ4 σ4} p4 e4 a4 => ⟨_, by omega, rfl, hlt, e, s, φ4, a4, ee.trans e4, PostS.rebase p4 (ex.trans e4)⟩
          cases o : b env1 st' with
          | next e s => rw [o] at p; exact fun H4 φ4 σ4 e4 a4 => nx p e4 a4
          | cont e s => rw [o] at p; exact fun H4 φ4 σ4 e4 a4 => nx p e4 a4
          | brk e s =>
            rw [o] at p
            simp only at p
            split at p
            · rename_i hl2
              exact fun H4 φ4 σ4 e4 a4 => p H4 φ4 σ4 (ex.trans e4) ⟨a4.re.scope hl2, a4.rs⟩
            · exact p.elim
          | ret r s => rw [o] at p; exact PostS.rebase (o := .ret r s) p ex
          | exc x e s => rw [o] at p; exact PostS.rebase (o := .exc x e s) p ex
          | stuck => rw [o] at p; exact p
        · exact p.elim
    · exact p.elim
  · have ei : i = q.xs.length := by omega
    subst ei
    rw [List.drop_length] at p
    unfold forL at p
    split at p
    · rename_i c
      exact .inl ⟨src.stops H' φ' st' e' a'.rs c.1, p H' φ' σ' Ext.refl ⟨a'.re.scope c.2, a'.rs⟩⟩
    · exact p.elim
end

/-! ### while -/
open Classical in
noncomputable def whileL (c : FB) (body : FS) (e0 : Env) : Nat → FS
  | 0, _, _ => .stuck
  | n + 1, env, st => (c env st).thenS env fun b st1 => if b = true then
      match body env st1 with
      | .next e s => if e0.length = e.length then whileL c body e0 n (scope e0 e) s else .stuck
      | .cont e s => if e0.length = e.length then whileL c body e0 n (scope e0 e) s else .stuck
      | .brk e s => if e0.length = e.length then .next (scope e0 e) s else .stuck
      | .ret r s => .ret r s
      | .exc x e s => .exc x e s
      | .stuck => .stuck
    else .next env st1
open Classical in
noncomputable def fWhile (c : FB) (body : FS) : FS := fun env st =>
  if h : ∃ n, whileL c body env n env st ≠ .stuck then whileL c body env (Classical.choose h) env st else .stuck
theorem whileL_mono (c : FB) (body : FS) (e0 : Env) : ∀ (n : Nat) (env : Env) (st : Store), whileL c body e0 n env st ≠ .stuck → whileL c body e0 (n + 1) env st = whileL c body e0 n env st
  | 0, env, st, h => (h rfl).elim
  | n + 1, env, st, h => by
    rw [whileL]
    conv => rhs; rw [whileL]
    rw [whileL] at h
    cases o : c env st with
    | exc x s => rfl
    | stuck => rfl
    | ok b s =>
      rw [o] at h
      simp only [Out.thenS_ok] at h ⊢
      cases b with
      | false => rfl
      | true =>
        simp only [if_true] at h ⊢
        cases o2 : body env s with
        | next e s2 =>
          rw [o2] at h
          simp only at h ⊢
          split
          · rename_i hl
            rw [if_pos hl] at h
            exact whileL_mono c body e0 n _ _ h
          · rfl
        | cont e s2 =>
          rw [o2] at h
          simp only at h ⊢
          split
          · rename_i hl
            rw [if_pos hl] at h
            exact whileL_mono c body e0 n _ _ h
          · rfl
        | _ => rfl
theorem whileL_le (c : FB) (body : FS) (e0 : Env) (n k : Nat) (env : Env) (st : Store) (h : whileL c body e0 n env st ≠ .stuck) : whileL c body e0 (n + k) env st = whileL c body e0 n env st := by
  induction k with
  | zero => rfl
  | succ k ih => rw [← Nat.add_assoc, whileL_mono c body e0 (n + k) env st (by rw [ih]; exact h), ih]
theorem fWhile_eq {c : FB} {body : FS} {env : Env} {st : Store} {o : OutS} (n : Nat) (h : whileL c body env n env st = o) (ho : o ≠ .stuck) : fWhile c body env st = o := by
  have ex : ∃ n, whileL c body env n env st ≠ .stuck := ⟨n, by rw [h]; exact ho⟩
  unfold fWhile
  rw [dif_pos ex]
  have hc := Classical.choose_spec ex
  rcases Nat.le_total n (Classical.choose ex) with q | q
  · obtain ⟨k, e⟩ := Nat.exists_eq_add_of_le q
    rw [e, whileL_le c body env n k env st (by rw [h]; exact ho), h]
  · obtain ⟨k, e⟩ := Nat.exists_eq_add_of_le q
    rw [← h]
    have := whileL_le c body env (Classical.choose ex) k env st hc
    rw [← e] at this
    exact this.symm
section
variable {X : Cx} {W : WX} {c : Expr} {fc : FB} {b : FS} {body : List Stmt} {pos : Pos}
theorem ss_while (hp : PassesOwn (model X.prog X.w) X.A X.env X.xe) (hc : SB X W c fc) (hb : SSs X W body b) : SS X W (.While c body [] pos) (fWhile fc b) := by
  refine ps_imp (ps_while hp hc hb) fun D σ H ⟨env, st, φ, a, q⟩ => ?_
  unfold fWhile at q
  split at q
  · rename_i ex
    generalize Classical.choose ex = n at q
    refine ⟨fun m σ' H' => ∃ env' st' φ', At X.md σ' H' env' st' φ' ∧ PostS X.md W H' φ' D (whileL fc b env m env' st'), ⟨n, env, st, φ, a, q⟩, ?_⟩
    rintro m σ' H' ⟨env', st', φ', a', p⟩
    cases m with
    | zero => exact p.elim
    | succ m =>
      rw [whileL] at p
      refine ⟨env', st', φ', a', (PostS.bind a' p).mono fun d H1 φ1 st1 e1 s1 p1 => ?_⟩
      have a1 := a'.then e1 s1
      cases d with
      | false => exact p1 H1 φ1 σ' e1 a1
      | true =>
        simp only [if_true] at p1
        show if true = true then _ else _
        rw [if_pos rfl]
        refine ⟨fun σ2 H2 => ∃ env2 st2 φ2, At X.md σ2 H2 env2 st2 φ2 ∧ PostS X.md W H2 φ2 D (whileL fc b env m env2 st2), fun σ2 H2 n => ⟨m, Nat.lt_succ_self _, n⟩, env', st1, φ1, a1, ?_⟩
        cases o : b env' st1 with
        | next e s =>
          rw [o] at p1
          simp only at p1
          split at p1
          · rename_i hl
            exact fun H4 φ4 σ4 e4 a4 => ⟨_, s, φ4, ⟨a4.re.scope hl, a4.rs⟩, PostS.rebase p1 (e1.trans e4)⟩
          · exact p1.elim
        | cont e s =>
          rw [o] at p1
          simp only at p1
          split at p1
          · rename_i hl
            exact fun H4 φ4 σ4 e4 a4 => ⟨_, s, φ4, ⟨a4.re.scope hl, a4.rs⟩, PostS.rebase p1 (e1.trans e4)⟩
          · exact p1.elim
        | brk e s =>
          rw [o] at p1
          simp only at p1
          split at p1
          · rename_i hl
            exact fun H4 φ4 σ4 e4 a4 => p1 H4 φ4 σ4 (e1.trans e4) ⟨a4.re.scope hl, a4.rs⟩
          · exact p1.elim
        | ret r s => rw [o] at p1; exact PostS.rebase (o := .ret r s) p1 e1
        | exc x e s => rw [o] at p1; exact PostS.rebase (o := .exc x e s) p1 e1
        | stuck => rw [o] at p1; exact p1
  · exact q.elim
end
end Fx

set_option Elab.async false
set_option linter.all false
set_option maxRecDepth 100000
set_option maxHeartbeats 4000000
set_option autoImplicit false
/-! Fx, part I: comprehensions. -/
namespace Fx
open PySem PySem.Spec PyProof.Rows L2

/-- a target that changes the places own alone -/
def tC (M : Md) (own : List Nat) (f : FG) : TG := fun v σ H Q => ∃ env st φ d env', At M σ H env st φ ∧ RD M.K H φ d v ∧ f d env = some env' ∧ ∀ σ', At M σ' H env' st φ → (σ'.length = σ.length ∧ ∀ i, i ∉ own → σ'[i]? = σ[i]?) → Q σ' H
abbrev SC (X : Cx) (own : List Nat) (tg : Expr) (f : FG) : Prop := PG X tg (tC X.md own f)
def tCs (M : Md) (own : List Nat) (f : FGs) : TGs := fun vs σ H Q => ∃ env st φ ds env', At M σ H env st φ ∧ RDs M.K H φ ds vs ∧ f ds env = some env' ∧ ∀ σ', At M σ' H env' st φ → (σ'.length = σ.length ∧ ∀ i, i ∉ own → σ'[i]? = σ[i]?) → Q σ' H
abbrev SCs (X : Cx) (own : List Nat) (ts : List Expr) (f : FGs) : Prop := PGs X ts (tCs X.md own f)
section
variable {X : Cx} {pos : Pos} {own : List Nat}
theorem sc_name {i : Nat} {x : Str} (hN : X.N.Nodup) (hi : X.N[i]? = some x) (hx : Loc X.env.scope x) (ho : i ∈ own) (hf : X.fn x = true ∨ X.env.scope.names.lookup x = some .local := by first | exact .inl rfl | exact .inr rfl | assumption) : SC X own (.Name x pos) (tgN i) :=
  pg_imp (pg_name hN hi hx hf) fun v σ H Q ⟨env, st, φ, d, env', a, r, e, q⟩ => by
    cases e
    refine q _ ⟨a.re.set r, a.rs⟩ ⟨by simp, fun j hj => ?_⟩
    have : i ≠ j := fun z => hj (z ▸ ho)
    rw [List.getElem?_set_ne this]
theorem scs_nil : SCs X own [] tgNil := pgs_imp pgs_nil fun v σ H Q ⟨env, st, φ, ds, env', a, r, e, q⟩ => by
  unfold tgNil at e
  split at e
  · cases e
    rename_i z
    cases r with
    | nil => exact ⟨rfl, q _ a ⟨rfl, fun _ _ => rfl⟩⟩
    | cons _ _ => cases z
  · cases e
theorem scs_cons {e : Expr} {es : List Expr} {f : FG} {g : FGs} (h1 : SC X own e f) (h2 : SCs X own es g)
    (hs : (assignEach (e :: es) X.env).map (·.2) = assign e X.env :: (assignEach es X.env).map (·.2) := by rfl) : SCs X own (e :: es) (tgCons f g) :=
  pgs_imp (pgs_cons h1 h2 hs) fun v σ H Q ⟨env, st, φ, ds, env', a, r, e, q⟩ => by
    cases r with
    | nil => cases e
    | @cons d ds v vs h t =>
      cases e1 : f d env with
      | none => simp [tgCons, e1] at e
      | some env1 =>
        simp only [tgCons, e1, Option.bind_some] at e
        exact ⟨v, vs, rfl, env, st, φ, d, env1, a, h, e1, fun σ' a' u => ⟨env1, st, φ, ds, env', a', t, e, fun σ2 a2 u2 => q σ2 a2 ⟨u2.1.trans u.1, fun i hi => (u2.2 i hi).trans (u.2 i hi)⟩⟩⟩
theorem sc_tup {es : List Expr} {k : Nat} {g : FGs} {n : Nat} (hc : X.calm = true) (h : SCs X own es g) (hl : ∀ ds env env', g ds env = some env' → ds.length = n)
    (hn : (assignEach es X.env).length = n := by rfl) (hst : (assignEach es X.env).findIdx? (·.1) = none := by rfl) : SC X own (.Tuple es k pos) (tgT g) :=
  pg_imp (pg_tup hc h hn hst) fun v σ H Q ⟨env, st, φ, d, env', a, r, e, q⟩ => by
    cases r with
    | @tup b vs ds ht hr =>
      exact ⟨b, vs, rfl, SqT.of ht, by rw [← hr.length]; exact hl ds env env' e, env, st, φ, ds, env', a, hr, e, q⟩
    | _ => cases e
end
theorem wipe_in {σ : L2.St} {i : Nat} : ∀ {vs : List Nat}, i ∈ vs → (L2.wipe σ vs)[i]? = if i < σ.length then some none else none
  | [], h => absurd h (by simp)
  | v :: vs, h => by
    unfold L2.wipe
    by_cases e : v = i
    · subst e
      by_cases hl : v < σ.length
      · rw [if_pos hl, List.getElem?_set_self (by rw [wipe_length]; exact hl)]
      · rw [if_neg hl, List.getElem?_eq_none (by simp [wipe_length]; omega)]
    · rw [List.getElem?_set_ne e]
      rcases List.mem_cons.mp h with z | z
      · exact (e z.symm).elim
      · exact wipe_in z
theorem wipe_eq {σ σ' : L2.St} {own : List Nat} (hl : σ'.length = σ.length) (h : ∀ i, i ∉ own → σ'[i]? = σ[i]?) : L2.wipe σ' own = L2.wipe σ own := by
  refine List.ext_getElem? fun i => ?_
  by_cases hi : i ∈ own
  · rw [wipe_in hi, wipe_in hi, hl]
  · rw [wipe_out hi, wipe_out hi, h i hi]
theorem wipe_wipe {σ : L2.St} {own : List Nat} : L2.wipe (L2.wipe σ own) own = L2.wipe σ own := wipe_eq (wipe_length _ _) fun i hi => wipe_out hi

/-- the block's own names have no value ahead of a turn -/
def wipeE (env : Env) : List Nat → Env
  | [] => env
  | v :: vs => (wipeE env vs).set v none
theorem RE.forget {K : PySem.W.Frag} {H : Hp} {φ : List Addr} {env : Env} {σ : L2.St} {i : Nat} (r : RE K H φ env σ) : RE K H φ (env.set i none) (σ.set i none) := by
  refine ⟨by simp [r.len], fun j d' e => ?_⟩
  by_cases q : i = j
  · subst q
    by_cases hi : i < env.length
    · rw [List.getElem?_set_self hi] at e; cases e
    · rw [List.getElem?_eq_none (by simp; omega)] at e; cases e
  · rw [List.getElem?_set_ne q] at e
    obtain ⟨v', e1, r1⟩ := r.get j d' e
    exact ⟨v', by rw [List.getElem?_set_ne q]; exact e1, r1⟩
theorem RE.wipe {K : PySem.W.Frag} {H : Hp} {φ : List Addr} {env : Env} {σ : L2.St} (r : RE K H φ env σ) : ∀ own : List Nat, RE K H φ (wipeE env own) (L2.wipe σ own)
  | [] => r
  | v :: vs => (RE.wipe r vs).forget

/-- no exception comes out -/
def Out.nox {α : Type} : Out α → Out α
  | .ok a st => .ok a st
  | _ => .stuck
@[simp] theorem Out.nox_ok {α : Type} (a : α) (st : Store) : (Out.ok a st).nox = .ok a st := rfl
open Classical in
noncomputable def compL (ok : Store → Prop) (tg : FG) (tt : FB) (elt : FE) (e0 : Env) : List D → List D → Store → Out R
  | [], acc, st => if ok st then .ok (.o (.lst acc)) st else .stuck
  | d :: ds, acc, st => if ok st then
      match tg d e0 with
      | some env1 => (tt env1 st).nox.bind fun b st1 => if b = true then
          (elt env1 st1).nox.bind fun r st2 => if acc.length < 1000000 then compL ok tg tt elt e0 ds (acc ++ [(alloc r st2).1]) (alloc r st2).2 else .stuck
        else compL ok tg tt elt e0 ds acc st1
      | none => .stuck
    else .stuck
noncomputable def fComp (f : FI) (tg : FG) (tt : FB) (elt : FE) (own : List Nat) : FE := fun env st => (f env st).bind fun q st1 => compL q.ok tg tt elt (wipeE env own) q.xs [] st1
def fYes : FB := fun _ st => .ok true st

/-- no exception leaves -/
abbrev WNo : WX := fun _ _ _ _ => False
theorem Post.nox {α : Type} {M : Md} {W : WX} {H : Hp} {φ : List Addr} {σ σ' : L2.St} {o : Out α} {S : α → Hp → List Addr → Store → Prop} (h : Post M W H φ σ o.nox S) : Post M WNo H φ σ' o S := by
  cases o with
  | ok a st => exact h
  | exc x st => exact h.elim
  | stuck => exact h
theorem Ext.updNew {H1 H : Hp} {φ1 φ : List Addr} {D : Addr} {o : HO} (e : Ext H1 φ1 H φ) (h : H1 D = none) : Ext H1 φ1 (upd H D o) φ :=
  ⟨e.pre, fun a xs q => by rw [upd_ne (ne_of_none q h)]; exact e.tup a xs q, fun a ob u q => by rw [upd_ne (ne_of_none q h)]; exact e.frz a ob u q, fun a u q n => by rw [upd_ne (ne_of_none q h)]; exact e.keep a u q n,
    fun a u q => by
      by_cases z : a = D
      · subst z; exact ⟨_, upd_same⟩
      · rw [upd_ne z]; exact e.trk a u q⟩
/-- a list beside the store is written -/
theorem mono_upd {K : PySem.W.Frag} {H : Hp} {φ : List Addr} {D : Addr} {vs : List V} {o : HO} (h : H D = some (.lst vs)) : Mono K H φ (upd H D o) φ :=
  ⟨fun a xs q => by rw [upd_ne (ne_of q h (by intro z; cases z))]; exact q, fun a xs q => by
    rcases q with ⟨ob, q⟩ | q
    · exact .inl ⟨ob, by rw [upd_ne (ne_of q h (by intro z; cases z))]; exact q⟩
    · exact .inr q, fun _ _ q => q⟩
theorem rs_upd {P : Program} {w : World} {K : PySem.W.Frag} {H : Hp} {φ : List Addr} {st : Store} {D : Addr} {vs : List V} {o : HO} (s : RS P w K H φ st) (h : H D = some (.lst vs)) (n : D ∉ φ) : RS P w K (upd H D o) φ st :=
  s.keep (mono_upd h) fun a ha u q => by rw [upd_ne (fun z : a = D => n (by rw [← z]; exact ha))]; exact q

theorem tLc_of {M : Md} {W : WX} {f : FI} {tg : FG} {tt : FB} {elt : FE} {own : List Nat} {σ : L2.St} {H : Hp} {Q : VK} (h : tE M W (fComp f tg tt elt own) σ H Q) :
    tLc (tI M W f) (tC M own tg) (tB M WNo tt) (tE M WNo elt) own σ H Q := by
  obtain ⟨env, st, φ, a, q⟩ := h
  refine ⟨env, st, φ, a, (PostE.bind q).mono fun sq H1 φ1 st1 e1 s1 q1 J src D hD => ?_⟩
  have aw : At M (L2.wipe σ own) H1 (wipeE env own) st1 φ1 := ⟨(a.re.mono e1.mono).wipe own, s1⟩
  refine ⟨fun i m H' => m = sq.xs.length - i ∧ i ≤ sq.xs.length ∧ ∃ acc vs st' φ', At M (L2.wipe σ own) H' (wipeE env own) st' φ' ∧ Ext H1 φ1 H' φ' ∧ H' D = some (.lst vs) ∧ D ∉ φ' ∧ RDs M.K H' φ' acc vs ∧
      PostE M W H1 φ1 σ (compL sq.ok tg tt elt (wipeE env own) (sq.xs.drop i) acc st') Q, ⟨sq.xs.length, by simp, Nat.zero_le _, [], [], st1, φ1, ⟨aw.re.mono (Ext.new hD).mono, s1.new hD⟩, Ext.new hD, upd_same, s1.notin hD, .nil, by simpa using q1⟩, ?_⟩
  rintro i m H' ⟨rfl, hi, acc, vs, st', φ', a', e', hv, nD, rv, p⟩
  by_cases hlt : i < sq.xs.length
  · have ed : sq.xs.drop i = sq.xs[i] :: sq.xs.drop (i + 1) := List.drop_eq_getElem_cons hlt
    rw [ed] at p
    unfold compL at p
    split at p
    · rename_i ok
      refine .inr ⟨src.goes i H' φ' st' hlt e' a'.rs ok, fun H2 => i + 1 ≤ sq.xs.length ∧ ∃ acc vs st2 φ2, At M (L2.wipe σ own) H2 (wipeE env own) st2 φ2 ∧ Ext H1 φ1 H2 φ2 ∧ H2 D = some (.lst vs) ∧ D ∉ φ2 ∧ RDs M.K H2 φ2 acc vs ∧
          PostE M W H1 φ1 σ (compL sq.ok tg tt elt (wipeE env own) (sq.xs.drop (i + 1)) acc st2) Q, fun H2 n => ⟨sq.xs.length - (i + 1), by omega, rfl, n⟩, fun x H2 y => ?_⟩
      obtain ⟨ex, sx, d, ed2, rd⟩ := src.yields i H' φ' st' x H2 hlt e' a'.rs ok y
      have hd : d = sq.xs[i] := by rw [List.getElem?_eq_getElem hlt] at ed2; exact (Option.some.inj ed2).symm
      subst hd
      split at p
      · rename_i env1 eg
        have hv2 : H2 D = some (.lst vs) := ex.keep D _ hv nD
        have e2 : Ext H1 φ1 H2 φ' := e'.trans ex
        refine ⟨wipeE env own, st', φ', _, env1, ⟨a'.re.mono ex.mono, sx⟩, rd, eg, fun σ3 a3 u => ⟨?_, ?_⟩⟩
        · exact (wipe_eq u.1 u.2).trans wipe_wipe
        · refine ⟨env1, st', φ', a3, (Post.nox (Post.rebase (PostE.bind0 p) e2)).mono fun b H3 φ3 st3 e3 s3 p3 => ?_⟩
          have hv3 : H3 D = some (.lst vs) := e3.keep D _ hv2 nD
          have nD3 : D ∉ φ3 := e3.notin hv2 nD
          have rv3 : RDs M.K H3 φ3 acc vs := (rv.mono ex.mono).mono e3.mono
          have aw3 : RE M.K H3 φ3 (wipeE env own) (L2.wipe σ own) := (a'.re.mono ex.mono).mono e3.mono
          cases b with
          | false =>
            show if false = true then _ else _
            rw [if_neg (by decide)]
            simp only [Bool.false_eq_true, if_false] at p3
            exact ⟨hlt, acc, vs, st3, φ3, ⟨aw3, s3⟩, e2.trans e3, hv3, nD3, rv3, p3⟩
          | true =>
            show if true = true then _ else _
            rw [if_pos rfl]
            simp only [if_true] at p3
            refine ⟨env1, st3, φ3, a3.then e3 s3, (Post.nox (Post.rebase (PostE.bind0 p3) (e2.trans e3))).mono fun r H4 φ4 st4 e4 s4 p4 v rr => ?_⟩
            split at p4
            · rename_i hl
              obtain ⟨φ5, s5, r5, e5, m5⟩ := alloc_ok s4 rr e4
              have hv4 : H4 D = some (.lst vs) := e4.keep D _ hv3 nD3
              have nD5 : D ∉ φ5 := e5.notin hv3 nD3
              have mu : Mono M.K H4 φ5 (upd H4 D (.lst (vs ++ [v]))) φ5 := mono_upd hv4
              have e15 : Ext H1 φ1 H4 φ5 := (e2.trans e3).trans e5
              refine ⟨vs, hv4, by rw [← rv.length]; exact line_of' hl, hlt, acc ++ [(alloc r st4).1], vs ++ [v], (alloc r st4).2, φ5, ⟨(aw3.mono e5.mono).mono mu, rs_upd s5 hv4 nD5⟩, e15.updNew hD, upd_same, nD5, ?_, p4⟩
              exact ((rv3.mono e5.mono).mono mu).append (.cons (r5.mono mu) .nil)
            · exact p4.elim
      · exact p.elim
    · exact p.elim
  · have ei : i = sq.xs.length := by omega
    subst ei
    rw [List.drop_length] at p
    unfold compL at p
    split at p
    · rename_i ok
      exact .inl ⟨src.stops H' φ' st' e' a'.rs ok, p H' φ' e' a'.rs _ ⟨D, rfl, .lst hv rv, nD, hD⟩⟩
    · exact p.elim
section
variable {X : Cx} {W : WX} {elt tg iter : Expr} {ifs : List Expr} {scope : PySem.Scope} {own : List (Str × Nat)} {pos : Pos} {f : FI} {g : FG} {tt : FB} {fe : FE}
abbrev STs (X : Cx) (ifs : List Expr) (tt : FB) : Prop := PTs X ifs (tB X.md WNo tt)
theorem sts_nil : STs X [] fYes := ⟨fun pins s σ H Q I ⟨env, st, φ, a, q⟩ => pts_nil.run pins s σ H Q I (q H φ Ext.refl a.rs)⟩
theorem sts_one {c : Expr} (h : SB X WNo c tt) : STs X [c] tt := pts_one h
theorem se_comp (hc : X.calm = true) (hN : X.N.Nodup) (hi : SI X W tg iter f) (ok : BlkOk X.N X.env.scope scope own)
    (hg : ∀ (s : Shared) (H : Hp) (C : Addr) (cl : List (Str × Addr)) (fp : List Addr), SC (X.blk s H scope (compEnvC scope cl C X.env) fp) (own.map (·.2)) tg g) (ht : ∀ (s : Shared) (H : Hp) (C : Addr) (cl : List (Str × Addr)) (fp : List Addr), STs (X.blk s H scope (compEnvC scope cl C X.env) fp) ifs tt)
    (he : ∀ (s : Shared) (H : Hp) (C : Addr) (cl : List (Str × Addr)) (fp : List Addr), SE (X.blk s H scope (compEnvC scope cl C X.env) fp) WNo elt fe) (hs : ∀ x, foldedSetIterable iter X.env x = pure x := by intro _; rfl) :
    SE X W (.ListComp elt [⟨tg, iter, ifs, 0⟩] scope pos) (fComp f g tt fe (own.map (·.2))) :=
  pe_imp (pe_lc (te := tE X.md WNo fe) (tt := tB X.md WNo tt) (g := tC X.md (own.map (·.2)) g) hc hN hi ok hg ht he hs) fun _ _ _ h => tLc_of h
theorem ss_setComp {i : Nat} {y : Str} {py spos : Pos} (hc : X.calm = true) (hN : X.N.Nodup) (hy : X.N[i]? = some y) (hyl : X.env.scope.names.lookup y = some .local)
    (hsw : swapsWith (.ListComp elt [⟨tg, iter, ifs, 0⟩] scope pos) (some (.Name y py)) spos.line X.env = pure true) (hi : SI X W tg iter f) (ok : BlkOk X.N X.env.scope scope own)
    (hg : ∀ (s : Shared) (H : Hp) (C : Addr) (cl : List (Str × Addr)) (fp : List Addr), SC (X.blk s H scope (compEnvC scope cl C X.env) fp) (own.map (·.2)) tg g) (ht : ∀ (s : Shared) (H : Hp) (C : Addr) (cl : List (Str × Addr)) (fp : List Addr), STs (X.blk s H scope (compEnvC scope cl C X.env) fp) ifs tt)
    (he : ∀ (s : Shared) (H : Hp) (C : Addr) (cl : List (Str × Addr)) (fp : List Addr), SE (X.blk s H scope (compEnvC scope cl C X.env) fp) WNo elt fe) (hs : ∀ x, foldedSetIterable iter X.env x = pure x := by intro _; rfl) :
    SS X W (.Assign [.Name y py] (.ListComp elt [⟨tg, iter, ifs, 0⟩] scope pos) spos) (fSet i (fComp f g tt fe (own.map (·.2)))) := by
  refine ps_imp (ps_setLc (te := tE X.md WNo fe) (tt := tB X.md WNo tt) (g := tC X.md (own.map (·.2)) g) hc hN hy hyl hsw hi ok hg ht he hs) fun D σ H ⟨env, st, φ, a, q⟩ => ?_
  refine tLc_of ?_
  refine tE_then a q fun r st1 H1 φ1 v e1 a1 rv q1 => ?_
  obtain ⟨φ2, e2, a2⟩ := set_ok (H0 := H) (φ0 := φ) (st := st) (i := i) a1 e1 rv
  exact q1 H1 φ2 _ e2 a2
end
end Fx

set_option Elab.async false
set_option linter.all false
set_option maxRecDepth 100000
set_option maxHeartbeats 4000000
set_option autoImplicit false
/-! Fx, part J: sorting in plain Lean. -/
namespace Fx
open PySem PySem.Spec PyProof.Rows L2

/-- a strict total order -/
structure STO {α : Type} (lt : α → α → Bool) : Prop where
  irr : ∀ a, lt a a = false
  tr : ∀ a b c, lt a b = true → lt b c = true → lt a c = true
  tot : ∀ a b, lt a b = false → lt b a = false → a = b
section
variable {α : Type} {lt : α → α → Bool}
theorem STO.asy (O : STO lt) {a b : α} (h : lt a b = true) : lt b a = false := by
  cases q : lt b a with
  | false => rfl
  | true => have := O.tr a b a h q; rw [O.irr] at this; cases this
def ins (lt : α → α → Bool) (x : α) : List α → List α
  | [] => [x]
  | y :: ys => if lt y x = true then y :: ins lt x ys else x :: y :: ys
def srt (lt : α → α → Bool) (l : List α) : List α := l.foldr (ins lt) []
theorem ins_perm (x : α) : ∀ l : List α, (ins lt x l).Perm (x :: l)
  | [] => .refl _
  | y :: ys => by
    unfold ins
    split
    · exact ((ins_perm x ys).cons y).trans (.swap x y ys)
    · exact .refl _
theorem srt_perm : ∀ l : List α, (srt lt l).Perm l
  | [] => .refl _
  | x :: l => (ins_perm x (srt lt l)).trans ((srt_perm l).cons x)
theorem ins_pw (O : STO lt) (x : α) : ∀ l : List α, l.Pairwise (fun a b => lt b a = false) → (ins lt x l).Pairwise (fun a b => lt b a = false)
  | [], _ => by simp [ins]
  | y :: ys, h => by
    unfold ins
    have h1 := (List.pairwise_cons.mp h).1
    have h2 := (List.pairwise_cons.mp h).2
    split
    · rename_i q
      refine List.pairwise_cons.mpr ⟨fun z hz => ?_, ins_pw O x ys h2⟩
      rcases List.mem_cons.mp ((ins_perm x ys).mem_iff.mp hz) with e | e
      · subst e; exact O.asy q
      · exact h1 z e
    · rename_i q
      have q' : lt y x = false := by simpa using q
      refine List.pairwise_cons.mpr ⟨fun z hz => ?_, h⟩
      rcases List.mem_cons.mp hz with e | e
      · subst e; exact q'
      · cases r : lt z x with
        | false => rfl
        | true =>
          -- z < x, and not z < y: so not y > z .. y ≤ z < x
          have h3 := h1 z e
          cases s : lt y z with
          | true => have := O.tr y z x s r; rw [q'] at this; cases this
          | false => have := O.tot y z s h3; subst this; rw [q'] at r; cases r
theorem srt_pw (O : STO lt) : ∀ l : List α, (srt lt l).Pairwise (fun a b => lt b a = false)
  | [] => List.Pairwise.nil
  | x :: l => ins_pw O x _ (srt_pw O l)
/-- there is but one sorted arrangement -/
theorem srt_uniq (O : STO lt) : ∀ {l m : List α}, l.Pairwise (fun a b => lt b a = false) → m.Pairwise (fun a b => lt b a = false) → l.Perm m → l = m
  | [], m, _, _, p => (List.Perm.eq_nil p.symm).symm
  | x :: l, [], _, _, p => absurd p.length_eq (by simp)
  | x :: l, y :: m, hl, hm, p => by
    have e : x = y := by
      have hx : x ∈ y :: m := p.mem_iff.mp List.mem_cons_self
      have hy : y ∈ x :: l := p.mem_iff.mpr List.mem_cons_self
      rcases List.mem_cons.mp hx with e | hx
      · exact e
      · rcases List.mem_cons.mp hy with e | hy
        · exact e.symm
        · exact (O.tot x y ((List.pairwise_cons.mp hm).1 x hx) ((List.pairwise_cons.mp hl).1 y hy))
    subst e
    rw [srt_uniq O (List.pairwise_cons.mp hl).2 (List.pairwise_cons.mp hm).2 p.cons_inv]
theorem srt_eq (O : STO lt) {l m : List α} (h : m.Pairwise (fun a b => lt b a = false)) (p : m.Perm l) : m = srt lt l := srt_uniq O h (srt_pw O l) (p.trans (srt_perm l).symm)
theorem srt_id (O : STO lt) {l : List α} (h : l.Pairwise (fun a b => lt b a = false)) : srt lt l = l := (srt_eq O h (.refl _)).symm
/-- each once -/
def insU [DecidableEq α] (lt : α → α → Bool) (x : α) : List α → List α
  | [] => [x]
  | y :: ys => if lt x y = true then x :: y :: ys else if x = y then y :: ys else y :: insU lt x ys
def srtU [DecidableEq α] (lt : α → α → Bool) (l : List α) : List α := l.foldr (insU lt) []
theorem insU_mem [DecidableEq α] (x z : α) : ∀ l : List α, z ∈ insU lt x l ↔ z = x ∨ z ∈ l
  | [] => by simp [insU]
  | y :: ys => by
    unfold insU
    split
    · simp
    · split
      · rename_i e; subst e; simp
      · simp only [List.mem_cons, insU_mem x z ys]
        constructor
        · rintro (h | h | h)
          · exact .inr (.inl h)
          · exact .inl h
          · exact .inr (.inr h)
        · rintro (h | h | h)
          · exact .inr (.inl h)
          · exact .inl h
          · exact .inr (.inr h)
theorem srtU_mem [DecidableEq α] (z : α) : ∀ l : List α, z ∈ srtU lt l ↔ z ∈ l
  | [] => by simp [srtU]
  | x :: l => by
    show z ∈ insU lt x (srtU lt l) ↔ _
    rw [insU_mem, srtU_mem z l, List.mem_cons]
theorem insU_pw [DecidableEq α] (O : STO lt) (x : α) : ∀ l : List α, l.Pairwise (fun a b => lt a b = true) → (insU lt x l).Pairwise (fun a b => lt a b = true)
  | [], _ => by simp [insU]
  | y :: ys, h => by
    unfold insU
    have h1 := (List.pairwise_cons.mp h).1
    have h2 := (List.pairwise_cons.mp h).2
    split
    · rename_i q
      refine List.pairwise_cons.mpr ⟨fun z hz => ?_, h⟩
      rcases List.mem_cons.mp hz with e | e
      · subst e; exact q
      · exact O.tr x y z q (h1 z e)
    · rename_i q
      split
      · exact h
      · rename_i ne
        refine List.pairwise_cons.mpr ⟨fun z hz => ?_, insU_pw O x ys h2⟩
        rcases (insU_mem x z ys).mp hz with e | e
        · subst e
          cases r : lt y z with
          | true => rfl
          | false => exact (ne (O.tot z y (by simpa using q) r)).elim
        · exact h1 z e
theorem srtU_pw [DecidableEq α] (O : STO lt) : ∀ l : List α, (srtU lt l).Pairwise (fun a b => lt a b = true)
  | [] => List.Pairwise.nil
  | x :: l => insU_pw O x _ (srtU_pw O l)
/-- ascending lists with the same items are one -/
theorem asc_ext (O : STO lt) : ∀ {l m : List α}, l.Pairwise (fun a b => lt a b = true) → m.Pairwise (fun a b => lt a b = true) → (∀ z, z ∈ l ↔ z ∈ m) → l = m
  | [], [], _, _, _ => rfl
  | [], y :: m, _, _, h => absurd ((h y).mpr List.mem_cons_self) (by simp)
  | x :: l, [], _, _, h => absurd ((h x).mp List.mem_cons_self) (by simp)
  | x :: l, y :: m, hl, hm, h => by
    have hl1 := (List.pairwise_cons.mp hl).1
    have hm1 := (List.pairwise_cons.mp hm).1
    have e : x = y := by
      rcases List.mem_cons.mp ((h x).mp List.mem_cons_self) with e | hx
      · exact e
      · rcases List.mem_cons.mp ((h y).mpr List.mem_cons_self) with e | hy
        · exact e.symm
        · have a := hm1 x hx
          have b := hl1 y hy
          rw [O.asy a] at b; cases b
    subst e
    refine congrArg (x :: ·) (asc_ext O (List.pairwise_cons.mp hl).2 (List.pairwise_cons.mp hm).2 fun z => ?_)
    constructor
    · intro hz
      rcases List.mem_cons.mp ((h z).mp (List.mem_cons_of_mem _ hz)) with e | q
      · subst e; have := hl1 z hz; rw [O.irr] at this; cases this
      · exact q
    · intro hz
      rcases List.mem_cons.mp ((h z).mpr (List.mem_cons_of_mem _ hz)) with e | q
      · subst e; have := hm1 z hz; rw [O.irr] at this; cases this
      · exact q
theorem srtU_eq [DecidableEq α] (O : STO lt) {l m : List α} (h : m.Pairwise (fun a b => lt a b = true)) (e : ∀ z, z ∈ m ↔ z ∈ l) : m = srtU lt l := asc_ext O h (srtU_pw O l) fun z => (e z).trans (srtU_mem z l).symm
end
/-- ints -/
def ltI (a b : Int) : Bool := decide (a < b)
theorem sto_int : STO ltI := ⟨fun a => by simp [ltI], fun a b c h1 h2 => by simp [ltI] at *; omega, fun a b h1 h2 => by simp [ltI] at *; omega⟩
/-- tuples of ints, as Python has it -/
def lexB : List Int → List Int → Bool
  | [], [] => false
  | [], _ :: _ => true
  | _ :: _, [] => false
  | x :: xs, y :: ys => if x = y then lexB xs ys else decide (x < y)
theorem sto_lex : STO lexB := by
  refine ⟨fun a => ?_, fun a b c => ?_, fun a b => ?_⟩
  · induction a with
    | nil => rfl
    | cons x xs ih => simp [lexB, ih]
  · induction a generalizing b c with
    | nil =>
      intro h1 h2
      cases b with
      | nil => cases h1
      | cons y ys =>
        cases c with
        | nil => cases h2
        | cons z zs => rfl
    | cons x xs ih =>
      intro h1 h2
      cases b with
      | nil => cases h1
      | cons y ys =>
        cases c with
        | nil => cases h2
        | cons z zs =>
          simp only [lexB] at *
          split at h1
          · rename_i e
            subst e
            split at h2
            · rename_i e
              rw [if_pos e]; exact ih _ _ h1 h2
            · rename_i e
              rw [if_neg e]; exact h2
          · rename_i e
            split at h2
            · rename_i e2
              subst e2
              rw [if_neg e]; exact h1
            · rename_i e2
              have a1 := of_decide_eq_true h1
              have a2 := of_decide_eq_true h2
              rw [if_neg (by omega)]
              exact decide_eq_true (by omega)
  · induction a generalizing b with
    | nil =>
      intro h1 h2
      cases b with
      | nil => rfl
      | cons y ys => cases h1
    | cons x xs ih =>
      intro h1 h2
      cases b with
      | nil => cases h2
      | cons y ys =>
        simp only [lexB] at *
        split at h1
        · rename_i e
          subst e
          rw [if_pos rfl] at h2
          rw [ih _ h1 h2]
        · rename_i e
          rw [if_neg (Ne.symm e)] at h2
          have a1 := of_decide_eq_false h1
          have a2 := of_decide_eq_false h2
          exact (e (by omega)).elim
end Fx

set_option Elab.async false
set_option linter.all false
set_option maxRecDepth 100000
set_option maxHeartbeats 4000000
set_option autoImplicit false
/-! Fx, part K: calls of built-ins. -/
namespace Fx
open PySem PySem.Spec PyProof.Rows L2

def fCall1 (g : R → Store → Out R) (f : FE) : FE := fun env st => (f env st).bind g
def Cr1 (X : Cx) (r : List V → Hp → VK → Prop) (g : R → Store → Out R) : Prop := ∀ (W : WX) (σ : L2.St) (H H0 : Hp) (φ : List Addr) (st : Store) (ra : R) (x : V) (Q : VK),
  RS X.prog X.w X.K H φ st → RR X.prog X.w X.K H0 H φ ra x → PostE X.md W H φ σ (g ra st) Q → r [x] H Q
section
variable {X : Cx} {W : WX} {x : Str} {p pos : Pos} {a : Expr} {f : FE} {id T : String} {r : List V → Hp → VK → Prop} {g : R → Store → Out R}
theorem tCB_of (h1 : Cr1 X r g) {σ : L2.St} {H : Hp} {Q : VK} (h : tE X.md W (fCall1 g f) σ H Q) : tCB r (tCons (tE X.md W f) tNil) σ H Q := by
  obtain ⟨env, st, φ, a, q⟩ := h
  refine tE_seq a q fun ra st1 H1 φ1 v e1 a1 rv q1 => ?_
  exact h1 W σ H1 H φ1 st1 ra v Q a1.rs rv q1
theorem se_callB (hc : CallR X (.builtin id) r) (h1 : Cr1 X r g) (hg : Gl X x) (hm : X.mg x = none) (hv : bootBuiltins x = some (.builtin id)) (ha : SE X W a f) (hn : x ≠ "__name__" := by decide) (hdb : (x == ("__debug__" : Str)) = false := by decide)
    (he : starEach (a :: []) X.env = (false, eval a X.env) :: starEach [] X.env := by rfl) (hpl : (backTo pos (starEach [] X.env)).any (·.1) = false := by rfl) : SE X W (.Call (.Name x p) [a] [] pos) (fCall1 g f) :=
  pe_imp (pe_callB hc hg hm hv (pa_cons ha pa_nil he) hn hdb he hpl) fun _ _ _ h => tCB_of h1 h
theorem se_callTy (hc : CallR X (.type T) r) (h1 : Cr1 X r g) (hg : Gl X x) (hm : X.mg x = none) (hv : bootBuiltins x = some (.type T)) (ha : SE X W a f) (hn : x ≠ "__name__" := by decide) (hdb : (x == ("__debug__" : Str)) = false := by decide)
    (he : starEach (a :: []) X.env = (false, eval a X.env) :: starEach [] X.env := by rfl) (hpl : (backTo pos (starEach [] X.env)).any (·.1) = false := by rfl) : SE X W (.Call (.Name x p) [a] [] pos) (fCall1 g f) :=
  pe_imp (pe_callTy hc hg hm hv (pa_cons ha pa_nil he) hn hdb he hpl) fun _ _ _ h => tCB_of h1 h
theorem CallR.or {f : Value} {r r' : List V → Hp → VK → Prop} (h : CallR X f r) (h' : CallR X f r') : CallR X f (fun xs H Q => r xs H Q ∨ r' xs H Q) := by
  intro pins s σ H xs us Q I rx q
  rcases q with q | q
  · exact h pins s σ H xs us Q I rx q
  · exact h' pins s σ H xs us Q I rx q
end

/-! ### len -/
def gLen (r : R) (st : Store) : Out R := match r with
  | .v (.tup xs) => .ok (.v (.int xs.length)) st
  | .v (.str z) => if z.length ≤ 1000000 then .ok (.v (.int z.length)) st else .stuck
  | r => match seqL st r with
    | some xs => .ok (.v (.int xs.length)) st
    | none => .stuck
theorem cr1_len {X : Cx} : Cr1 X (fun xs H Q => ∃ x n, xs = [x] ∧ LenV X.K x H n ∧ Q (.int n) H) gLen := by
  intro W σ H H0 φ st ra x Q s rx h
  unfold gLen at h
  split at h
  · obtain ⟨a, vs, rfl, q, t⟩ := tup_ok rx
    exact ⟨_, vs.length, rfl, .inr ⟨vs, SqT.of q, rfl⟩, by rw [← t.length]; exact of_val (M := X.md) s (.int _) h⟩
  · split at h
    · rename_i z hl
      rw [str_ok rx]
      exact ⟨_, z.length, rfl, ⟨line_of hl, rfl⟩, of_val (M := X.md) s (.int _) h⟩
    · exact h.elim
  · split at h
    · rename_i xs e
      obtain ⟨a, vs, rfl, q, t⟩ := seqL_ok s rx e
      exact ⟨_, vs.length, rfl, .inl ⟨vs, q, rfl⟩, by rw [← t.length]; exact of_val (M := X.md) s (.int _) h⟩
    · exact h.elim

/-! ### int, abs -/
def gInt (r : R) (st : Store) : Out R := match r with
  | .v (.int i) => .ok (.v (.int i)) st
  | .v (.bl b) => .ok (.v (.int (if b then 1 else 0))) st
  | _ => .stuck
theorem cr1_int {X : Cx} : Cr1 X (fun xs H Q => (∃ i, xs = [.int i] ∧ Q (.int i) H) ∨ ∃ k, xs = [.bl k] ∧ Q (.int (if k then 1 else 0)) H) gInt := by
  intro W σ H H0 φ st ra x Q s rx h
  unfold gInt at h
  split at h
  · rw [int_ok rx]; exact .inl ⟨_, rfl, of_val (M := X.md) s (.int _) h⟩
  · rw [bl_ok rx]; exact .inr ⟨_, rfl, of_val (M := X.md) s (.int _) h⟩
  · exact h.elim
def gAbs (r : R) (st : Store) : Out R := match r with
  | .v (.int i) => .ok (.v (.int (if i < 0 then -i else i))) st
  | _ => .stuck
theorem cr1_abs {X : Cx} : Cr1 X (fun xs H Q => ∃ i, xs = [.int i] ∧ Q (.int (if i < 0 then -i else i)) H) gAbs := by
  intro W σ H H0 φ st ra x Q s rx h
  unfold gAbs at h
  split at h
  · rw [int_ok rx]; exact ⟨_, rfl, of_val (M := X.md) s (.int _) h⟩
  · exact h.elim

/-! ### tuple, list -/
def gTuple (r : R) (st : Store) : Out R := match r with
  | .v (.tup xs) => .ok (.v (.tup xs)) st
  | r => match seqL st r with
    | some xs => .ok (.v (.tup xs)) st
    | none => .stuck
theorem cr1_tuple {X : Cx} : Cr1 X (fun xs H Q => ∃ p ys, xs = [.ref p] ∧ ((SqL X.K H p ys ∧ ∀ l, H l = none → Q (.ref l) (upd H l (.tup ys))) ∨ (SqT X.K H p ys ∧ Q (.ref p) H))) gTuple := by
  intro W σ H H0 φ st ra x Q s rx h
  unfold gTuple at h
  split at h
  · obtain ⟨a, vs, rfl, q, t⟩ := tup_ok rx
    exact ⟨a, vs, rfl, .inr ⟨SqT.of q, of_val (M := X.md) s (.tup q t) h⟩⟩
  · split at h
    · rename_i xs e
      obtain ⟨a, vs, rfl, q, t⟩ := seqL_ok s rx e
      exact ⟨a, vs, rfl, .inl ⟨q, fun l hl => new_tup (M := X.md) s t h hl⟩⟩
    · exact h.elim
def gList (r : R) (st : Store) : Out R := match r with
  | .v (.tup xs) => .ok (.o (.lst xs)) st
  | r => match seqL st r with
    | some xs => .ok (.o (.lst xs)) st
    | none => .stuck
theorem cr1_list {X : Cx} : Cr1 X (fun xs H Q => ∃ p ys, xs = [.ref p] ∧ (SqL X.K H p ys ∨ SqT X.K H p ys) ∧ ∀ l, H l = none → Q (.ref l) (upd H l (.lst ys))) gList := by
  intro W σ H H0 φ st ra x Q s rx h
  unfold gList at h
  split at h
  · obtain ⟨a, vs, rfl, q, t⟩ := tup_ok rx
    exact ⟨a, vs, rfl, .inr (SqT.of q), fun l hl => new_lst (M := X.md) s t h hl⟩
  · split at h
    · rename_i xs e
      obtain ⟨a, vs, rfl, q, t⟩ := seqL_ok s rx e
      exact ⟨a, vs, rfl, .inl q, fun l hl => new_lst (M := X.md) s t h hl⟩
    · exact h.elim
/-- list(range(a)) -/
def fListRng1 (f : FE) : FE := fun env st => (f env st).bind fun r st1 => match r with
  | .v (.int j) => if 0 ≤ j ∧ j < 1000000 then .ok (.o (.lst (rngD 0 j.toNat))) st1 else .stuck
  | _ => .stuck
theorem rds_rng {K : PySem.W.Frag} {H : Hp} {φ : List Addr} {a b : Int} : RDs K H φ (rngD a (b - a).toNat) (rgV a b) := by
  unfold rngD rgV
  generalize List.range (b - a).toNat = l
  induction l with
  | nil => exact .nil
  | cons i l ih => exact .cons (.int _) ih
theorem se_listRng1 {X : Cx} {W : WX} {a : Expr} {f : FE} {p q pos rpos : Pos} (hc : X.calm = true) (hg : Gl X "list") (hm : X.mg "list" = none) (hg2 : Gl X "range") (hm2 : X.mg "range" = none) (ha : SE X W a f)
    (na : starEach [a] X.env = (false, eval a X.env) :: starEach [] X.env := by rfl) (nb : starEach [.Call (.Name "range" q) [a] [] rpos] X.env = (false, eval (.Call (.Name "range" q) [a] [] rpos) X.env) :: starEach [] X.env := by rfl) :
    SE X W (.Call (.Name "list" p) [.Call (.Name "range" q) [a] [] rpos] [] pos) (fListRng1 f) := by
  refine pe_imp (pe_listRg hc hg hm (prg_1 hg2 hm2 ha na) nb) fun σ H Q ⟨env, st, φ, a, q⟩ => ?_
  refine tE_seq a q fun r st1 H1 φ1 v e1 a1 rv q1 => ?_
  split at q1
  · split at q1
    · rename_i j hj
      refine ⟨j, int_ok rv, RgOk.of_le (by omega) (by omega) (by omega) (by omega), fun l hl => new_lst (M := X.md) a1.rs ?_ q1 hl⟩
      have := rds_rng (K := X.K) (H := H1) (φ := φ1) (a := 0) (b := j)
      simpa using this
    · exact q1.elim
  · exact q1.elim

/-! ### repr -/
def gRepr (r : R) (st : Store) : Out R := match r.toP st 60 with
  | some p => if p.showable = true ∧ p.shown.length ≤ 1000000 then .ok (.v (.str p.shown)) st else .stuck
  | none => .stuck
mutual
theorem lay_noDict : ∀ {p : PyData}, p.canLay0 = true → p.hasDict = false
  | .none, _ => by simp [PyData.hasDict]
  | .bool _, _ => by simp [PyData.hasDict]
  | .int _, _ => by simp [PyData.hasDict]
  | .str _, _ => by simp [PyData.hasDict]
  | .list xs, h => by
    have := lay_noDicts (xs := xs) (by simpa [PyData.canLay0] using h)
    simpa [PyData.hasDict] using this
  | .tuple xs, h => by
    have := lay_noDicts (xs := xs) (by simpa [PyData.canLay0] using h)
    simpa [PyData.hasDict] using this
  | .dict _, h => by simp [PyData.canLay0] at h
theorem lay_noDicts : ∀ {xs : List PyData}, PyData.canLayAll0 xs = true → PyData.hasDictAll xs = false
  | [], _ => by simp [PyData.hasDictAll]
  | p :: xs, h => by
    simp only [PyData.canLayAll0, Bool.and_eq_true] at h
    have h1 := lay_noDict h.1
    have h2 := lay_noDicts h.2
    simp [PyData.hasDictAll, h1, h2]
end
def rReprV (K : PySem.W.Frag) : List V → Hp → VK → Prop := fun xs H Q => ∃ x p, xs = [x] ∧ Dp K H x p ∧ p.canLay0 = true ∧ p.depth ≤ 61 ∧ p.showable = true ∧ p.shown.length ≤ 1000000 ∧ Q (.str p.shown) H
theorem cr1_repr {X : Cx} : Cr1 X (rReprV X.K) gRepr := by
  intro W σ H H0 φ st ra x Q s rx h
  unfold gRepr at h
  split at h
  · rename_i p e
    split at h
    · rename_i hl
      obtain ⟨h1, h2, h3⟩ := rtoP_ok s rx e
      exact ⟨x, p, rfl, h1, h2, h3, hl.1, hl.2, of_val (M := X.md) s (.str _) h⟩
    · exact h.elim
  · exact h.elim
theorem call_reprV {X : Cx} (C : Cd X) : CallR X (.builtin "repr") (rReprV X.K) := by
  intro pins s σ H xs us Q I r h
  obtain ⟨x, p, rfl, hp, hl, hd, h1, hz, q⟩ := h
  obtain ⟨u, rfl, rx⟩ := vals1 r
  have h2 := lay_noDict hl
  have hu := C.hu
  have big : ∀ (a : Addr), u = .ref a → wpAny (model X.prog X.w) X.A (call (.builtin "repr") [u]) (EP X pins σ Q) X.xe s := fun a e => by
    subst e
    obtain ⟨as, rd⟩ := Dp.reads I p x _ hp rx
    exact repr_of_reads' rd h1 (PyData.noDict_hsm h2) C.hg (by omega) (fun _ _ e => e) (fun h' u tk hk => ⟨.str p.shown, H, I.kept (t' := tk) hk, ⟨_, rfl⟩, q⟩) (line_of hz)
  cases hp with
  | non => obtain rfl : u = Value.none := rx; exact PySem.P.repr_of_none ⟨.str _, H, I.tok _, ⟨_, rfl⟩, by simpa [PyData.shown] using q⟩
  | bl b => obtain rfl : u = Value.bool b := rx; exact PySem.P.repr_of_bool ⟨.str _, H, I.tok _, ⟨_, rfl⟩, by simpa [PyData.shown] using q⟩
  | int i =>
    obtain ⟨t, rfl⟩ := rx
    refine PySem.P.repr_of_int (by simpa [PyData.showable] using h1) ⟨.str _, H, I.tok _, ⟨_, rfl⟩, by simpa [PyData.shown] using q⟩
  | str z =>
    obtain ⟨t, rfl⟩ := rx
    exact PySem.P.repr_of_str ⟨.str _, H, I.tok _, ⟨_, rfl⟩, by simpa [PyData.shown] using q⟩ (by simpa [PyData.shown] using line_of hz)
  | lst _ _ => exact big _ rx
  | tup _ _ => exact big _ rx

/-! ### sorted, set -/
def D.asI : D → Option Int
  | .int i => some i
  | _ => none
def D.asT : D → Option (List Int)
  | .tup xs => xs.mapM D.asI
  | _ => none
def dtup (xs : List Int) : D := .tup (xs.map .int)
theorem mapM_some {α β : Type} {f : α → Option β} : ∀ {l : List α} {m : List β}, l.mapM f = some m → ∀ {x : α}, x ∈ l → ∃ y, f x = some y ∧ y ∈ m
  | [], _, _, x, hx => by simp at hx
  | a :: l, m, h, x, hx => by
    rw [List.mapM_cons] at h
    cases e1 : f a with
    | none => rw [e1] at h; cases h
    | some b =>
      rw [e1] at h
      cases e2 : l.mapM f with
      | none => rw [e2] at h; cases h
      | some bs =>
        rw [e2] at h
        have : m = b :: bs := by simpa using h.symm
        subst this
        rcases List.mem_cons.mp hx with z | z
        · subst z; exact ⟨b, e1, List.mem_cons_self⟩
        · obtain ⟨y, h1, h2⟩ := mapM_some e2 z
          exact ⟨y, h1, List.mem_cons_of_mem _ h2⟩
section
variable {K : PySem.W.Frag} {H : Hp} {φ : List Addr}
theorem asI_ok : ∀ {xs : List D} {vs : List V} {ks : List Int}, RDs K H φ xs vs → xs.mapM D.asI = some ks → vs = ks.map V.int ∧ xs = ks.map D.int
  | [], _, ks, .nil, e => by
    have : ks = [] := by simpa using e.symm
    subst this; exact ⟨rfl, rfl⟩
  | d :: ds, _, ks, .cons h t, e => by
    rw [List.mapM_cons] at e
    cases e1 : d.asI with
    | none => rw [e1] at e; cases e
    | some k =>
      rw [e1] at e
      cases e2 : ds.mapM D.asI with
      | none => rw [e2] at e; cases e
      | some ls =>
        rw [e2] at e
        have : ks = k :: ls := by simpa using e.symm
        subst this
        obtain ⟨h1, h2⟩ := asI_ok t e2
        cases d with
        | int i => cases e1; cases h; rw [h1, h2]; exact ⟨rfl, rfl⟩
        | _ => cases e1
/-- tuples of ints, where they stand -/
theorem asT_ok : ∀ {xs : List D} {vs : List V} {ks : List (List Int)}, RDs K H φ xs vs → xs.mapM D.asT = some ks → ∃ M : List (Addr × List Int), vs = M.map (fun p => V.ref p.1) ∧ M.map (·.2) = ks ∧ ∀ p ∈ M, H p.1 = some (.tup (p.2.map V.int))
  | [], _, ks, .nil, e => by
    have : ks = [] := by simpa using e.symm
    subst this; exact ⟨[], rfl, rfl, by simp⟩
  | d :: ds, _, ks, .cons h t, e => by
    rw [List.mapM_cons] at e
    cases e1 : d.asT with
    | none => rw [e1] at e; cases e
    | some k =>
      rw [e1] at e
      cases e2 : ds.mapM D.asT with
      | none => rw [e2] at e; cases e
      | some ls =>
        rw [e2] at e
        have : ks = k :: ls := by simpa using e.symm
        subst this
        obtain ⟨M, h1, h2, h3⟩ := asT_ok t e2
        cases d with
        | tup ys =>
          cases h with
          | @tup a vs' _ hq hr =>
            obtain ⟨k1, k2⟩ := asI_ok hr e1
            subst k1
            exact ⟨(a, k) :: M, by simp [h1], by simp [h2], fun p hp => by
              rcases List.mem_cons.mp hp with z | z
              · subst z; exact hq
              · exact h3 p z⟩
        | _ => cases e1
theorem rds_ints : ∀ ks : List Int, RDs K H φ (ks.map D.int) (ks.map V.int)
  | [] => .nil
  | k :: ks => .cons (.int k) (rds_ints ks)
theorem rds_tups : ∀ M : List (Addr × List Int), (∀ p ∈ M, H p.1 = some (.tup (p.2.map V.int))) → RDs K H φ ((M.map (·.2)).map dtup) (M.map fun p => V.ref p.1)
  | [], _ => .nil
  | p :: M, h => .cons (.tup (h p List.mem_cons_self) (rds_ints p.2)) (rds_tups M fun q hq => h q (List.mem_cons_of_mem _ hq))
end
/-- set(xs), xs a list of tuples of ints -/
def gSetT (r : R) (st : Store) : Out R := match (seqL st r).bind fun xs => xs.mapM D.asT with
  | some ks => if ks.length < 64 then .ok (.o (.sT ks)) st else .stuck
  | none => .stuck
theorem cr1_setT {X : Cx} : Cr1 X (rSetOfT X.K X.prog X.w) gSetT := by
  intro W σ H H0 φ st ra x Q s rx h
  unfold gSetT at h
  split at h
  · rename_i ks e
    split at h
    · rename_i hl
      cases e1 : seqL st ra with
      | none => rw [e1] at e; cases e
      | some xs =>
        rw [e1] at e
        obtain ⟨a, vs, rfl, q, t⟩ := seqL_ok s rx e1
        obtain ⟨M, rfl, m2, m3⟩ := asT_ok t e
        subst m2
        refine ⟨a, M, rfl, q, fun p hp => SqT.of (m3 p hp), by simpa using hl, fun b L hb l1 l2 => ?_⟩
        refine h _ _ (Ext.new hb) (s.new hb) _ ⟨b, rfl, .sT (M := L) upd_same (fun p hp => ?_) (fun t => ?_), s.notin hb, hb⟩
        · rw [upd_ne (ne_of_none (m3 p (l1 p hp)) hb)]
          exact m3 p (l1 p hp)
        · constructor
          · intro z
            obtain ⟨p, hp, e⟩ := List.mem_map.mp z
            exact List.mem_map.mpr ⟨p, l1 p hp, e⟩
          · intro z
            obtain ⟨p, hp, e⟩ := List.mem_map.mp z
            have := l2 p hp
            rw [← e]; exact this
    · exact h.elim
  · exact h.elim
theorem code_of_lex : ∀ {r q : List Int}, r.length = q.length → TS.Bd 64 r → TS.Bd 64 q → lexB r q = true → TS.code 64 r < TS.code 64 q
  | [], [], _, _, _, h => by cases h
  | [], _ :: _, hl, _, _, _ => by simp at hl
  | _ :: _, [], hl, _, _, _ => by simp at hl
  | x :: r, y :: q, hl, h1, h2, h => by
    have hl' : r.length = q.length := by simpa using hl
    simp only [lexB] at h
    split at h
    · rename_i e
      subst e
      exact (TS.code_same hl').mpr (code_of_lex hl' h1.tail h2.tail h)
    · exact TS.code_lt hl' h1.tail h2.tail (of_decide_eq_true h)
/-- a set's tuples are all of one length and small -/
def SetOk (L : List (List Int)) : Prop := ∃ d : Nat, 1 ≤ d ∧ ∀ p ∈ L, p.length = d ∧ ∀ m ∈ p, 0 ≤ m ∧ m < 64
/-- the keys of a dict, all ints -/
def intKeys {κ : Type} (kvs : List (Key × κ)) : Option (List Int) := kvs.mapM fun kv => match kv.1 with
  | .inl i => some i
  | .inr _ => none
open Classical in
noncomputable def gSorted (r : R) (st : Store) : Out R := match objOf st r with
  | some (.sT L) => if SetOk L then .ok (.o (.lst ((srtU lexB L).map dtup))) st else .stuck
  | some (.dK kvs) => match intKeys kvs with
    | some ks => if ks.length < 64 then .ok (.o (.lst ((srt ltI ks).map .int))) st else .stuck
    | none => .stuck
  | _ => match seqL st r with
    | some xs => match xs.mapM D.asI with
      | some ks => .ok (.o (.lst ((srt ltI ks).map .int))) st
      | none => .stuck
    | none => .stuck
theorem le_of_srt {l : List Int} (h : l.Pairwise (· ≤ ·)) : l.Pairwise (fun a b => ltI b a = false) := h.imp fun {a b} q => by simp [ltI]; omega
theorem intKeys_ok {K : PySem.W.Frag} {H : Hp} {φ : List Addr} {kvs : List (Key × D)} {kws : List (Key × V)} (r : RKs K H φ kvs kws) : ∀ {ks : List Int}, intKeys kvs = some ks → kws.map (·.1) = ks.map Sum.inl := by
  induction r with
  | nil =>
    intro ks e
    have : ks = [] := by simpa [intKeys] using e.symm
    subst this; rfl
  | @cons k d ds v vs h t ih =>
    intro ks e
    unfold intKeys at e
    rw [List.mapM_cons] at e
    cases k with
    | inr x => cases e
    | inl i =>
      cases e2 : intKeys ds with
      | none => unfold intKeys at e2; simp [e2] at e
      | some ls =>
        have e3 := e2
        unfold intKeys at e2
        simp only [e2] at e
        have : ks = i :: ls := by simpa using e.symm
        subst this
        simp [ih e3]
section
variable {X : Cx}
abbrev rSortedDI : List V → Hp → VK → Prop := fun xs H Q => ∃ (a : Addr) (kvs : List (Key × V)) (ks : List Int), xs = [.ref a] ∧ Rd H a (.dK kvs) ∧ kvs.map (·.1) = ks.map Sum.inl ∧ ks.length < 64 ∧
    ∀ (ys : List Int) (p : Addr), ys.Perm ks → ys.Pairwise (· ≤ ·) → H p = none → Q (.ref p) (upd H p (.lst (ys.map V.int)))
def rSortedA (K : PySem.W.Frag) (P : Program) (w : World) : List V → Hp → VK → Prop := fun xs H Q => rSortedT K P w xs H Q ∨ rSortedDI xs H Q ∨ rSortedI K xs H Q
theorem cr_sortedA (C : Cd X) : CallR X (.builtin "sorted") (rSortedA X.K X.prog X.w) := CallR.or (cr_sortedT C.hc) (CallR.or (call_sortedDI C.hc) cr_sortedI)
theorem cr1_sorted : Cr1 X (rSortedA X.K X.prog X.w) gSorted := by
  intro W σ H H0 φ st ra x Q s rx h
  unfold gSorted at h
  have seq : ∀ xs, seqL st ra = some xs → PostE X.md W H φ σ (match xs.mapM D.asI with
      | some ks => .ok (.o (.lst ((srt ltI ks).map .int))) st
      | none => .stuck) Q → rSortedA X.K X.prog X.w [x] H Q := fun xs e1 h => by
    split at h
    · rename_i ks e2
      obtain ⟨a, vs, rfl, q, t⟩ := seqL_ok s rx e1
      obtain ⟨rfl, _⟩ := asI_ok t e2
      refine .inr (.inr ⟨a, ks, rfl, q, fun ns p hp hs hn => ?_⟩)
      have e : ns = srt ltI ks := srt_eq sto_int (le_of_srt hs) hp
      subst e
      exact new_lst (M := X.md) s (rds_ints _) h hn
    · exact h.elim
  split at h
  · rename_i L eo
    split at h
    · rename_i ok
      obtain ⟨d, hd, hL⟩ := ok
      obtain ⟨a, rfl, ro⟩ := objOf_ok s rx eo
      cases ro with
      | @sT _ _ M hq ht he =>
        have inL : ∀ p ∈ M, p.2 ∈ L := fun p hp => (he p.2).mp (List.mem_map.mpr ⟨p, hp, rfl⟩)
        refine .inl ⟨a, M, d, 64, rfl, hq, fun p hp => SqT.of (ht p hp), hd, fun p hp => hL p.2 (inL p hp), fun L' p pm nd _ pw hn => ?_⟩
        have mem : ∀ q ∈ L', q ∈ M := fun q hq => pm.mem_iff.mp hq
        have bd : ∀ q ∈ L', q.2.length = d ∧ TS.Bd 64 q.2 := fun q hq => hL q.2 (inL q (mem q hq))
        have asc : (L'.map (·.2)).Pairwise (fun a b => lexB a b = true) := by
          rw [List.pairwise_map]
          have nd' : L'.Pairwise (fun a b => a.2 ≠ b.2) := List.pairwise_map.mp nd
          refine (List.pairwise_iff_getElem.mpr fun i j hi hj hij => ?_)
          have m1 := List.getElem_mem hi
          have m2 := List.getElem_mem hj
          have le := (List.pairwise_iff_getElem.mp pw) i j hi hj hij
          have ne := (List.pairwise_iff_getElem.mp nd') i j hi hj hij
          cases q : lexB L'[i].2 L'[j].2 with
          | true => rfl
          | false =>
            cases q2 : lexB L'[j].2 L'[i].2 with
            | false => exact (ne (sto_lex.tot _ _ q q2)).elim
            | true =>
              have b1 := bd _ m1
              have b2 := bd _ m2
              have := code_of_lex (b2.1.trans b1.1.symm) b2.2 b1.2 q2
              omega
        have e : L'.map (·.2) = srtU lexB L := srtU_eq sto_lex asc fun z => by
          rw [← he z]
          constructor
          · intro hz
            obtain ⟨q, hq, e⟩ := List.mem_map.mp hz
            exact List.mem_map.mpr ⟨q, mem q hq, e⟩
          · intro hz
            obtain ⟨q, hq, e⟩ := List.mem_map.mp hz
            exact List.mem_map.mpr ⟨q, pm.mem_iff.mpr hq, e⟩
        rw [← e] at h
        exact new_lst (M := X.md) s (rds_tups L' fun q hq => ht q (mem q hq)) h hn
    · exact h.elim
  · rename_i kvs eo
    split at h
    · rename_i ks ek
      split at h
      · rename_i hl
        obtain ⟨a, rfl, ro⟩ := objOf_ok s rx eo
        cases ro with
        | dK hq t =>
          refine .inr (.inl ⟨a, _, ks, rfl, .inl hq, intKeys_ok t ek, hl, fun ns p hp hs hn => ?_⟩)
          have e : ns = srt ltI ks := srt_eq sto_int (le_of_srt hs) hp
          subst e
          exact new_lst (M := X.md) s (rds_ints _) h hn
      · exact h.elim
    · exact h.elim
  · split at h
    · rename_i xs e1
      exact seq xs e1 h
    · exact h.elim
end

/-! ### methods of lists -/
abbrev F3 := R → R → Store → Out R
def fMeth0 (g : R → Store → Out R) (fo : FE) : FE := fun env st => (fo env st).bind fun ro st1 => match seqL st1 ro with
  | some _ => g ro st1
  | none => .stuck
def fMeth1 (g : F3) (fo fa : FE) : FE := fun env st => (fo env st).bind fun ro st1 => match seqL st1 ro with
  | some _ => (fa env st1).bind fun ra st2 => g ro ra st2
  | none => .stuck
def Mt0 (X : Cx) (r : V → List V → Hp → VK → Prop) (g : R → Store → Out R) : Prop := ∀ (W : WX) (σ : L2.St) (H H0 : Hp) (φ : List Addr) (st : Store) (ro : R) (o : V) (Q : VK),
  RS X.prog X.w X.K H φ st → RR X.prog X.w X.K H0 H φ ro o → PostE X.md W H φ σ (g ro st) Q → r o [] H Q
def Mt1 (X : Cx) (r : V → List V → Hp → VK → Prop) (g : F3) : Prop := ∀ (W : WX) (σ : L2.St) (H1 H H0 : Hp) (φ1 φ : List Addr) (st : Store) (ro ra : R) (o a : V) (Q : VK),
  Ext H1 φ1 H φ → RS X.prog X.w X.K H φ st → RR X.prog X.w X.K H0 H φ ro o → RR X.prog X.w X.K H1 H φ ra a → PostE X.md W H1 φ1 σ (g ro ra st) Q → r o [a] H Q
section
variable {X : Cx} {W : WX} {o a : Expr} {fo fa : FE} {name : Str} {apos cpos : Pos} {id : String} {r : V → List V → Hp → VK → Prop}
theorem se_meth0 {g : R → Store → Out R} (slot : Slot "list" name id) (hty : typeOf (.builtin id) = pure (.type "method_descriptor")) (hm : MtR X id r) (h1 : Mt0 X r g) (ho : SE X W o fo)
    (hbase : attributeBase o name X.env (eval o X.env) = eval o X.env := by rfl) (hline : (apos.endLine == cpos.line) = true := by rfl) : SE X W (.Call (.Attribute o name apos) [] [] cpos) (fMeth0 g fo) := by
  refine pe_imp (pe_bm0 PySem.F.plainAttrs_list slot hty hm ho hbase hline) fun σ H Q ⟨env, st, φ, a, q⟩ => ?_
  refine tE_seq a q fun ro st1 H1 φ1 v e1 a1 rv q1 => ?_
  split at q1
  · rename_i xs es
    obtain ⟨b, vs, rfl, hq, t⟩ := seqL_ok a1.rs rv es
    exact ⟨.inl ⟨rfl, vs, hq⟩, h1 W σ H1 H φ1 st1 ro _ Q a1.rs rv q1⟩
  · exact q1.elim
theorem se_meth1 {g : F3} (slot : Slot "list" name id) (hty : typeOf (.builtin id) = pure (.type "method_descriptor")) (hm : MtR X id r) (h1 : Mt1 X r g) (ho : SE X W o fo) (ha : SE X W a fa)
    (hbase : attributeBase o name X.env (eval o X.env) = eval o X.env := by rfl)
    (hfew : ((backTo cpos (starEach (a :: []) X.env)).all (fun x => !x.1) && (backToKw cpos (keywordEach [] X.env)).all (fun x => x.1.isSome)
      && decide ((a :: []).length + ([] : List Keyword).length + (if ([] : List Keyword).isEmpty then 0 else 1) < 30)) = true := by rfl)
    (hline : (apos.endLine == cpos.line) = true := by rfl) (hs : starEach (a :: []) X.env = (false, eval a X.env) :: starEach [] X.env := by rfl) (hplain : (backTo cpos (starEach [] X.env)).any (·.1) = false := by rfl) :
    SE X W (.Call (.Attribute o name apos) [a] [] cpos) (fMeth1 g fo fa) := by
  refine pe_imp (pe_bm PySem.F.plainAttrs_list slot hty hm ho (pa_cons ha pa_nil hs) hbase hfew hline hs hplain) fun σ H Q ⟨env, st, φ, a, q⟩ => ?_
  refine tE_seq a q fun ro st1 H1 φ1 v e1 a1 rv q1 => ?_
  split at q1
  · rename_i xs es
    obtain ⟨b, vs, rfl, hq, t⟩ := seqL_ok a1.rs rv es
    refine ⟨.inl ⟨rfl, vs, hq⟩, env, st1, φ1, a1, (PostE.bind0 q1).mono fun ra H2 φ2 st2 e2 s2 q2 y ry => ?_⟩
    exact h1 W σ H1 H2 H φ1 φ2 st2 ro ra _ y Q e2 s2 (rv.mono e2) ry q2
  · exact q1.elim
end
/-- the list named n in the store -/
def lstAt (st : Store) (n : Nat) : Option (List D) := match st[n]? with
  | some (.lst xs) => some xs
  | _ => none
theorem lstAt_some {st : Store} {n : Nat} {xs : List D} : lstAt st n = some xs ↔ st[n]? = some (.lst xs) := by
  unfold lstAt
  split
  · rename_i h; rw [h]; constructor
    · intro e; cases e; rfl
    · intro e; cases e; rfl
  · rename_i h; constructor
    · intro e; cases e
    · intro e; exact (h _ e).elim
def gAppend : F3 := fun ro ra st => match ro with
  | .v (.ref n) => match lstAt (alloc ra st).2 n with
    | some xs => if xs.length < 1000000 then .ok (.v .non) ((alloc ra st).2.set n (.lst (xs ++ [(alloc ra st).1]))) else .stuck
    | none => .stuck
  | _ => .stuck
def gExtend : F3 := fun ro ra st => match ro with
  | .v (.ref n) => match lstAt st n, seqM st ra with
    | some xs, some ys => if xs.length + ys.length ≤ 1000000 then .ok (.v .non) (st.set n (.lst (xs ++ ys))) else .stuck
    | _, _ => .stuck
  | _ => .stuck
def gPop : R → Store → Out R := fun ro st => match ro with
  | .v (.ref n) => match lstAt st n with
    | some xs => match xs[xs.length - 1]? with
      | some d => .ok (.v d) (st.set n (.lst xs.dropLast))
      | none => .stuck
    | none => .stuck
  | _ => .stuck
def gPopAt : F3 := fun ro ra st => match ro, ra with
  | .v (.ref n), .v (.int i) => match lstAt st n with
    | some xs => match ixN xs.length i with
      | some k => match xs[k]? with
        | some d => if xs.length ≤ 1000000 then .ok (.v d) (st.set n (.lst (xs.eraseIdx k))) else .stuck
        | none => .stuck
      | none => .stuck
    | none => .stuck
  | _, _ => .stuck
section
variable {M : Md} {H : Hp} {φ : List Addr} {st : Store} {n : Nat} {xs ys : List D}
/-- a list of the store is written -/
theorem write_lst {vs : List V} {a : Addr} (s : RS M.P M.w M.K H φ st) (h : φ[n]? = some a) (hq : H a = some (.lst vs)) (t : RDs M.K H φ xs vs) (ws : List V) (t' : RDs M.K H φ ys ws) :
    Ext H φ (upd H a (.lst ws)) φ ∧ RS M.P M.w M.K (upd H a (.lst ws)) φ (st.set n (.lst ys)) := by
  have ew : Ext H φ (upd H a (.lst ws)) φ := Ext.write (.lst hq t : RO M.P M.w M.K H φ _ a) h
  exact ⟨ew, s.write h (.lst hq t) (.lst upd_same (t'.mono ew.mono))⟩
theorem lst_at (s : RS M.P M.w M.K H φ st) (e : lstAt st n = some xs) : ∃ a vs, φ[n]? = some a ∧ H a = some (.lst vs) ∧ RDs M.K H φ xs vs := by
  obtain ⟨a, h1, ro⟩ := s.at_ (lstAt_some.mp e)
  cases ro with
  | lst q t => exact ⟨a, _, h1, q, t⟩
end
section
variable {X : Cx}
theorem ref_val {P : Program} {w : World} {K : PySem.W.Frag} {H0 H : Hp} {φ : List Addr} {n : Nat} {v : V} {a : Addr} (h : RR P w K H0 H φ (.v (.ref n)) v) (e : φ[n]? = some a) : v = .ref a := by
  cases h with
  | ref q => rw [e] at q; cases q; rfl
theorem mt1_append : Mt1 X rAppend gAppend := by
  intro W σ H1 H H0 φ1 φ st ro ra o a Q e s rro rra h
  unfold gAppend at h
  split at h
  · rename_i n
    obtain ⟨φ2, s2, r2, e2, m2⟩ := alloc_ok s rra e
    split at h
    · rename_i xs el
      split at h
      · rename_i hl
        obtain ⟨b, vs, hb, hq, t⟩ := lst_at (M := X.md) s2 el
        have eo : o = .ref b := ref_val (P := X.prog) (w := X.w) (H0 := H0) (RD.mono m2 rro) hb
        subst eo
        obtain ⟨ew, sw⟩ := write_lst (M := X.md) s2 hb hq t (vs ++ [a]) (t.append (.cons r2 .nil))
        exact ⟨b, vs, a, rfl, rfl, hq, by rw [← t.length]; exact line_of' hl, h _ φ2 (e2.trans ew) sw .non .non⟩
      · exact h.elim
    · exact h.elim
  · exact h.elim
theorem mt1_extend : Mt1 X rExtend gExtend := by
  intro W σ H1 H H0 φ1 φ st ro ra o a Q e s rro rra h
  unfold gExtend at h
  split at h
  · rename_i n
    split at h
    · rename_i xs ys el em
      split at h
      · rename_i hl
        obtain ⟨b, vs, hb, hq, t⟩ := lst_at (M := X.md) s el
        have eo : o = .ref b := ref_val rro hb
        subst eo
        obtain ⟨c, ws, rfl, hc, t2⟩ := seqM_ok s rra em
        obtain ⟨ew, sw⟩ := write_lst (M := X.md) s hb hq t (vs ++ ws) (t.append t2)
        exact ⟨b, c, vs, ws, rfl, rfl, hq, hc, by rw [← t.length, ← t2.length]; exact line_of hl, h _ φ (e.trans ew) sw .non .non⟩
      · exact h.elim
    · exact h.elim
  · exact h.elim
theorem mt0_pop : Mt0 X rPop gPop := by
  intro W σ H H0 φ st ro o Q s rro h
  unfold gPop at h
  split at h
  · rename_i n
    split at h
    · rename_i xs el
      split at h
      · rename_i d ed
        obtain ⟨b, vs, hb, hq, t⟩ := lst_at (M := X.md) s el
        have eo : o = .ref b := ref_val rro hb
        subst eo
        obtain ⟨v, ev, rv⟩ := t.get ed
        obtain ⟨ew, sw⟩ := write_lst (M := X.md) s hb hq t vs.dropLast t.dropLast
        exact ⟨b, vs, v, rfl, rfl, hq, by rw [← t.length]; exact ev, h _ φ ew sw v (rv.mono ew.mono)⟩
      · exact h.elim
    · exact h.elim
  · exact h.elim
theorem ix_lt {n : Nat} {i : Int} {k : Nat} (h : ixN n i = some k) : k < n := (ixN_seq h).2.1
theorem mt1_popAt : Mt1 X rPopAt gPopAt := by
  intro W σ H1 H H0 φ1 φ st ro ra o a Q e s rro rra h
  unfold gPopAt at h
  split at h
  · rename_i n i
    split at h
    · rename_i xs el
      split at h
      · rename_i k ek
        split at h
        · rename_i d ed
          split at h
          · rename_i hl
            obtain ⟨b, vs, hb, hq, t⟩ := lst_at (M := X.md) s el
            have eo : o = .ref b := ref_val rro hb
            subst eo
            obtain ⟨v, ev, rv⟩ := t.get ed
            obtain ⟨ew, sw⟩ := write_lst (M := X.md) s hb hq t (vs.eraseIdx k) (t.eraseIdx k)
            obtain ⟨k1, k2, k3, k4⟩ := ixN_seq ek
            have p63 : (1000000 : Int) < 2 ^ 63 := by decide
            refine ⟨b, vs, i, k, v, rfl, by rw [int_ok rra], hq, by omega, by omega, by rw [← t.length]; exact k1, ev, h _ φ (e.trans ew) sw v (rv.mono ew.mono)⟩
          · exact h.elim
        · exact h.elim
      · exact h.elim
    · exact h.elim
  · exact h.elim
end
section
variable {X : Cx} {W : WX} {o a : Expr} {fo fa : FE} {apos cpos : Pos}
theorem se_append (ho : SE X W o fo) (ha : SE X W a fa) (hbase : attributeBase o "append" X.env (eval o X.env) = eval o X.env := by rfl)
    (hfew : ((backTo cpos (starEach (a :: []) X.env)).all (fun x => !x.1) && (backToKw cpos (keywordEach [] X.env)).all (fun x => x.1.isSome)
      && decide ((a :: []).length + ([] : List Keyword).length + (if ([] : List Keyword).isEmpty then 0 else 1) < 30)) = true := by rfl)
    (hline : (apos.endLine == cpos.line) = true := by rfl) (hs : starEach (a :: []) X.env = (false, eval a X.env) :: starEach [] X.env := by rfl) (hplain : (backTo cpos (starEach [] X.env)).any (·.1) = false := by rfl) :
    SE X W (.Call (.Attribute o "append" apos) [a] [] cpos) (fMeth1 gAppend fo fa) := se_meth1 PySem.F.slot_list_append PySem.F.type_list_append mt_append mt1_append ho ha hbase hfew hline hs hplain
theorem se_extend (ho : SE X W o fo) (ha : SE X W a fa) (hbase : attributeBase o "extend" X.env (eval o X.env) = eval o X.env := by rfl)
    (hfew : ((backTo cpos (starEach (a :: []) X.env)).all (fun x => !x.1) && (backToKw cpos (keywordEach [] X.env)).all (fun x => x.1.isSome)
      && decide ((a :: []).length + ([] : List Keyword).length + (if ([] : List Keyword).isEmpty then 0 else 1) < 30)) = true := by rfl)
    (hline : (apos.endLine == cpos.line) = true := by rfl) (hs : starEach (a :: []) X.env = (false, eval a X.env) :: starEach [] X.env := by rfl) (hplain : (backTo cpos (starEach [] X.env)).any (·.1) = false := by rfl) :
    SE X W (.Call (.Attribute o "extend" apos) [a] [] cpos) (fMeth1 gExtend fo fa) := se_meth1 PySem.F.slot_list_extend PySem.F.type_list_extend mt_extend mt1_extend ho ha hbase hfew hline hs hplain
theorem se_pop (ho : SE X W o fo) (hbase : attributeBase o "pop" X.env (eval o X.env) = eval o X.env := by rfl) (hline : (apos.endLine == cpos.line) = true := by rfl) :
    SE X W (.Call (.Attribute o "pop" apos) [] [] cpos) (fMeth0 gPop fo) := se_meth0 PySem.F.slot_list_pop PySem.F.type_list_pop mt_pop mt0_pop ho hbase hline
theorem se_popAt (ho : SE X W o fo) (ha : SE X W a fa) (hbase : attributeBase o "pop" X.env (eval o X.env) = eval o X.env := by rfl)
    (hfew : ((backTo cpos (starEach (a :: []) X.env)).all (fun x => !x.1) && (backToKw cpos (keywordEach [] X.env)).all (fun x => x.1.isSome)
      && decide ((a :: []).length + ([] : List Keyword).length + (if ([] : List Keyword).isEmpty then 0 else 1) < 30)) = true := by rfl)
    (hline : (apos.endLine == cpos.line) = true := by rfl) (hs : starEach (a :: []) X.env = (false, eval a X.env) :: starEach [] X.env := by rfl) (hplain : (backTo cpos (starEach [] X.env)).any (·.1) = false := by rfl) :
    SE X W (.Call (.Attribute o "pop" apos) [a] [] cpos) (fMeth1 gPopAt fo fa) := se_meth1 PySem.F.slot_list_pop PySem.F.type_list_pop mt_popAt mt1_popAt ho ha hbase hfew hline hs hplain
end
end Fx

set_option Elab.async false
set_option linter.all false
set_option maxRecDepth 100000
set_option maxHeartbeats 4000000
set_option autoImplicit false
/-! Fx, part L: defs and their calls. -/
namespace Fx
open PySem PySem.Spec PyProof.Rows L2

/-! ### what is left of the store behind a call -/
mutual
/-- all references are below n -/
inductive Bl (n : Nat) : D → Prop
  | non : Bl n .non
  | bl (b : Bool) : Bl n (.bl b)
  | int (i : Int) : Bl n (.int i)
  | str (x : Str) : Bl n (.str x)
  | tup {xs : List D} (h : Bls n xs) : Bl n (.tup xs)
  | lz {xs : List D} (h : Bls n xs) : Bl n (.lz xs)
  | ref {m : Nat} (h : m < n) : Bl n (.ref m)
inductive Bls (n : Nat) : List D → Prop
  | nil : Bls n []
  | cons {d : D} {ds : List D} (h : Bl n d) (t : Bls n ds) : Bls n (d :: ds)
end
theorem Bls.of {n : Nat} : ∀ {ds : List D}, (∀ d ∈ ds, Bl n d) → Bls n ds
  | [], _ => .nil
  | d :: ds, h => .cons (h d List.mem_cons_self) (Bls.of fun e he => h e (List.mem_cons_of_mem _ he))
theorem Bls.mem {n : Nat} : ∀ {ds : List D}, Bls n ds → ∀ d ∈ ds, Bl n d
  | _, .cons h t, d, hd => by
    rcases List.mem_cons.mp hd with e | e
    · subst e; exact h
    · exact t.mem d e
def OBl (n : Nat) : O → Prop
  | .lst xs => Bls n xs
  | .dK kvs => ∀ p ∈ kvs, Bl n p.2
  | .dT kvs => ∀ p ∈ kvs, Bl n p.2
  | .sT _ => True
  | .sI _ => True
def EBl (n : Nat) (e : Ex) : Prop := ∀ p ∈ e.fs, Bl n p.2
/-- what stood ahead is as it was, or speaks of nothing new -/
def OldOk (st st' : Store) : Prop := st.length ≤ st'.length ∧ ∀ (i : Nat) (o : O), i < st.length → st'[i]? = some o → st[i]? = some o ∨ OBl st.length o
open Classical in
/-- new objects that nobody knows are forgotten; a new object handed back is nobody's -/
noncomputable def gc (st : Store) (o : Out R) : Out R := match o with
  | .ok r st' => if OldOk st st' then match r with
      | .o x => if OBl st.length x then .ok (.o x) (st'.take st.length) else .ok r st'
      | .v d => if Bl st.length d then .ok (.v d) (st'.take st.length) else match d with
        | .ref m => match st'[m]? with
          | some x => if OBl st.length x then .ok (.o x) (st'.take st.length) else .ok r st'
          | none => .ok r st'
        | _ => .ok r st'
    else .ok r st'
  | .exc e st' => if OldOk st st' ∧ EBl st.length e then .exc e (st'.take st.length) else .exc e st'
  | .stuck => .stuck
section
variable {K : PySem.W.Frag} {H H' : Hp} {φ φ' : List Addr} {n : Nat}
mutual
theorem RD.bnd : ∀ {d : D} {v : V}, RD K H φ d v → Bl φ.length d
  | _, _, .non => .non
  | _, _, .bl b => .bl b
  | _, _, .int i => .int i
  | _, _, .str x => .str x
  | _, _, .tup _ r => .tup (RDs.bnd r)
  | _, _, .lz _ r => .lz (RDs.bnd r)
  | _, _, .ref h => .ref (List.getElem?_eq_some_iff.mp h).1
theorem RDs.bnd : ∀ {ds : List D} {vs : List V}, RDs K H φ ds vs → Bls φ.length ds
  | _, _, .nil => .nil
  | _, _, .cons h t => .cons (RD.bnd h) (RDs.bnd t)
end
mutual
theorem RD.cut (e : φ = φ'.take n) : ∀ {d : D} {v : V}, RD K H φ' d v → Bl n d → RD K H φ d v
  | _, _, .non, _ => .non
  | _, _, .bl b, _ => .bl b
  | _, _, .int i, _ => .int i
  | _, _, .str x, _ => .str x
  | _, _, .tup h r, .tup b => .tup h (RDs.cut' e r b)
  | _, _, .lz h r, .lz b => .lz h (RDs.cut' e r b)
  | _, _, .ref h, .ref b => .ref (by rw [e, List.getElem?_take_of_lt b]; exact h)
theorem RDs.cut' (e : φ = φ'.take n) : ∀ {ds : List D} {vs : List V}, RDs K H φ' ds vs → Bls n ds → RDs K H φ ds vs
  | _, _, .nil, _ => .nil
  | _, _, .cons h t, .cons b bs => .cons (RD.cut e h b) (RDs.cut' e t bs)
end
theorem RKs.cut {κ : Type} (e : φ = φ'.take n) : ∀ {ds : List (κ × D)} {vs : List (κ × V)}, RKs K H φ' ds vs → (∀ p ∈ ds, Bl n p.2) → RKs K H φ ds vs
  | _, _, .nil, _ => .nil
  | _, _, .cons h t, b => .cons (h.cut e (b _ List.mem_cons_self)) (RKs.cut e t fun p hp => b p (List.mem_cons_of_mem _ hp))
theorem RKs.bnd {κ : Type} : ∀ {ds : List (κ × D)} {vs : List (κ × V)}, RKs K H φ ds vs → ∀ p ∈ ds, Bl φ.length p.2
  | _, _, .cons h t, p, hp => by
    rcases List.mem_cons.mp hp with e | e
    · subst e; exact h.bnd
    · exact t.bnd p e
theorem RO.cut {P : Program} {w : World} {o : O} {a : Addr} (e : φ = φ'.take n) (r : RO P w K H φ' o a) (b : OBl n o) : RO P w K H φ o a := by
  cases r with
  | lst h t => exact .lst h (t.cut' e b)
  | dK h t => exact .dK h (t.cut e b)
  | dT h t => exact .dT h (t.cut e b)
  | sT h t e => exact .sT h t e
  | sI h q e nd => exact .sI h q e nd
theorem RO.bnd {P : Program} {w : World} {o : O} {a : Addr} (r : RO P w K H φ o a) : OBl φ.length o := by
  cases r with
  | lst h t => exact t.bnd
  | dK h t => exact t.bnd
  | dT h t => exact t.bnd
  | sT h t e => trivial
  | sI h q e nd => trivial
theorem ros_of {P : Program} {w : World} : ∀ {st : Store} {as : List Addr}, st.length = as.length → (∀ (i : Nat) (o : O) (a : Addr), st[i]? = some o → as[i]? = some a → RO P w K H φ o a) → ROs P w K H φ st as
  | [], [], _, _ => .nil
  | [], _ :: _, h, _ => by simp at h
  | _ :: _, [], h, _ => by simp at h
  | o :: st, a :: as, h, k => .cons (k 0 o a rfl rfl) (ros_of (by simpa using h) fun i o' a' h1 h2 => k (i + 1) o' a' (by simpa using h1) (by simpa using h2))
/-- back to the old store -/
theorem RS.back {P : Program} {w : World} {st st' : Store} (s : RS P w K H φ st) (s' : RS P w K H' φ' st') (e : Ext H φ H' φ') (ok : OldOk st st') : RS P w K H' φ (st'.take st.length) ∧ Ext H φ H' φ ∧ φ = φ'.take st.length := by
  obtain ⟨ψ, hφ, q⟩ := id e.pre
  have hl : st.length = φ.length := s.len
  have et : φ = φ'.take st.length := by rw [hφ, hl, List.take_left]
  refine ⟨⟨s.nd, ros_of ?_ fun i o a h1 h2 => ?_⟩, ⟨⟨[], by simp, by simp⟩, e.tup, e.frz, e.keep, e.trk⟩, et⟩
  · rw [List.length_take, hl]
    have := ok.1
    rw [hl] at this
    omega
  · have hi : i < st.length := by rw [hl]; exact (List.getElem?_eq_some_iff.mp h2).1
    rw [List.getElem?_take_of_lt hi] at h1
    obtain ⟨o', e1, r⟩ := s'.os.get (e.get h2)
    rw [h1] at e1; cases e1
    refine r.cut et ?_
    rcases ok.2 i o hi h1 with z | z
    · obtain ⟨a', e2, r2⟩ := s.os.get' z
      have := r2.bnd
      rw [← hl] at this
      exact this
    · exact z
end
theorem gc_ok {M : Md} {W : WX} {H : Hp} {φ : List Addr} {σ : L2.St} {st : Store} {o : Out R} {Q : VK} (s : RS M.P M.w M.K H φ st) (h : PostE M W H φ σ (gc st o) Q) : PostE M W H φ σ o Q := by
  cases o with
  | stuck => exact h
  | exc x st' =>
    unfold gc at h
    simp only at h
    split at h
    · rename_i c
      refine fun H' φ' c' d e s' rx => ?_
      obtain ⟨s2, e2, et⟩ := s.back s' e c.1
      obtain ⟨C, g1, g2, g3⟩ := rx
      refine h H' φ c' d e2 s2 ⟨C, g1, g2, ?_⟩
      rcases g3 with z | ⟨dx, kvs, k1, k2, k3⟩
      · exact .inl z
      · exact .inr ⟨dx, kvs, k1, k2, k3.cut et c.2⟩
    · exact h
  | ok r st' =>
    unfold gc at h
    simp only at h
    split at h
    · rename_i ok
      refine fun H' φ' e s' v rv => ?_
      obtain ⟨s2, e2, et⟩ := s.back s' e ok
      have obj : ∀ x, OBl st.length x → (∃ a, v = .ref a ∧ RO M.P M.w M.K H' φ' x a ∧ a ∉ φ ∧ H a = none) → PostE M W H φ σ (.ok (.o x) (st'.take st.length)) Q → Q v H' := fun x bx ⟨a, ea, ro, na, hn⟩ p =>
        p H' φ e2 s2 v ⟨a, ea, ro.cut et bx, na, hn⟩
      split at h
      · rename_i x
        split at h
        · rename_i bx
          obtain ⟨a, ea, ro, na, hn⟩ := rv
          refine obj x bx ⟨a, ea, ro, fun z => na ?_, hn⟩ h
          obtain ⟨ψ, hφ, _⟩ := e.pre
          rw [hφ]; exact List.mem_append_left _ z
        · exact h H' φ' e s' v rv
      · rename_i d
        split at h
        · rename_i bd
          exact h H' φ e2 s2 v (RD.cut et rv bd)
        · rename_i nbd
          split at h
          · rename_i m
            split at h
            · rename_i x ex
              split at h
              · rename_i bx
                obtain ⟨a, o', ea, h1, h2, ro⟩ := s'.of_ref rv
                rw [ex] at h2; cases h2
                have hm : st.length ≤ m := Nat.le_of_not_lt fun z => nbd (.ref z)
                obtain ⟨ψ, hφ, q⟩ := id e.pre
                have hl : st.length = φ.length := s.len
                have ha : a ∈ ψ := by
                  rw [hφ, List.getElem?_append_right (by omega)] at h1
                  exact List.mem_of_getElem? h1
                refine obj x bx ⟨a, ea, ro, fun z => ?_, q a ha⟩ h
                have nd := s'.nd
                rw [hφ] at nd
                exact (List.nodup_append.mp nd).2.2 a z a ha rfl
              · exact h H' φ' e s' v rv
            · exact h H' φ' e s' v rv
          · exact h H' φ' e s' v rv
    · exact h

/-! ### defs -/
def retOf : OutS → Out R
  | .ret r s => .ok r s
  | .next _ s => .ok (.v .non) s
  | .exc x _ s => .exc x s
  | _ => .stuck
abbrev FF := List D → Store → Out R
noncomputable def mkF (n : Nat) (body : FS) : FF := fun ds st => gc st (retOf (body (ds.map some ++ List.replicate (n - ds.length) none) st))

/-- the def at f does what F says -/
structure FnG (P : Program) (w : World) (K : PySem.W.Frag) (mg : Str → Option Value) (base : Heap) (k : Nat) (f : Addr) (fd : FuncData) (ps : List Str) (F : FF) : Prop where
  run : ∀ (A : Around) (outer : List PySem.Env) (s : Shared) (H : Hp) (args : Args) (us : List Value) (vs : List V) (Q : VK) (E : XK) (φ : List Addr) (ds : List D) (st : Store), Room k A → A.guards = some [] → Env0 P w K mg base A outer s H →
    BindsTo s fd args (ps.zip us) → Vals vs us → vs.length = ps.length → RS P w K H φ st → RDs K H φ ds vs → PostE ⟨P, w, K, mg⟩ (fun c d _ H' => E c d H') H φ [] (F ds st) Q →
    codeAny (model P w) A (.call (.ref f) args) (CR (L2.CX P w) outer P w H s Q E) s
theorem FnG.mono {P : Program} {w : World} {K : PySem.W.Frag} {mg : Str → Option Value} {base : Heap} {j k : Nat} {f : Addr} {fd : FuncData} {ps : List Str} {F : FF} (G : FnG P w K mg base j f fd ps F) (h : j ≤ k) : FnG P w K mg base k f fd ps F :=
  ⟨fun A outer s H args us vs Q E φ ds st hr => G.run A outer s H args us vs Q E φ ds st (hr.mono h)⟩

/-- what the body of a def may lean on -/
structure Bd (X : Cx) (W : WX) (k : Nat) : Prop where
  cd : Cd X
  tk : Takes X W
  pa : PassesOwn (model X.prog X.w) X.A X.env X.xe
  rm : Room k X.A
theorem fnG_of {P : Program} {w : World} {K : PySem.W.Frag} {mg : Str → Option Value} {base : Heap} {k : Nat} {f : Addr} {x qual : Str} {stm : Stmt} {fd : FuncData} {N ps : List Str} {body : FS} (Fn : FunD K x qual (defArgs stm) (defBody stm) (defScope stm) [] [] f fd) (S : FnScope N ps (defScope stm))
    (hbody : ∀ (cdv : Value) (A : Around) (outer : List PySem.Env) (s : Shared) (H : Hp) (E : XK), Bd (cxOf (L2.CX P w) P w K mg base N qual (defScope stm) f cdv A outer s H E) (fun c d _ H' => E c d H') k →
      SSs (cxOf (L2.CX P w) P w K mg base N qual (defScope stm) f cdv A outer s H E) (fun c d _ H' => E c d H') (defBody stm) body) : FnG P w K mg base (k + 1) f fd ps (mkF N.length body) := by
  obtain ⟨oc, od, dV, kV, doc, pm, an, cdv, ct, osl, rfl, lk, hcd, _, _⟩ := Fn.ex
  refine ⟨fun A outer s H args us vs Q E φ ds st hr hg e0 hb r hl rs rd hp => ?_⟩
  have KX : K.In s.heap := e0.mod.kin.keeps fun b o e => (e0.bs b o e).1
  have lim : s.heap.NoLimit := e0.mod.nolimit.keeps fun b o e => (e0.bs b o e).1
  have hkind : ∀ y ∈ ps.zip us, (defScope stm).names.lookup y.1 = some .local ∨ ((defScope stm).names.lookup y.1 = some .cell ∧ ((cellsFrom (s.heap.objs.size + 1) (defScope stm).names []).lookup y.1).isSome = true) := fun ⟨n, v⟩ hy => by
    rcases S.par n (List.of_mem_zip hy).1 with q | q
    · exact .inl q
    · exact .inr ⟨q, PySem.W.cellsFrom_some _ _ _ (.inl q)⟩
  refine codeAny_call_function hr.depth (KX _ _ lk) rfl S.co S.gen rfl (PySem.W.codeRec_of KX hcd) (hb _ _ _ _ ?_)
  refine wpAny_newFunctionEnv_cells S.kind hkind fun env he s1 x => ?_
  subst he
  refine ⟨lim.keeps x.toInCall.keep, codeAny_func ?_⟩
  have hr' : Room k (A.deeper (envOfC qual (defScope stm) s.heap.objs.size f cdv)) := hr.deeper _
  have I : Inv (cxOf (L2.CX P w) P w K mg base N qual (defScope stm) f cdv A outer s H E) [] (L2.start N vs) H s1 := inv_start S hr.hd e0 hl r x
  have B : Bd (cxOf (L2.CX P w) P w K mg base N qual (defScope stm) f cdv A outer s H E) (fun c d _ H' => E c d H') k :=
    ⟨⟨rfl, by
      have := hr'.un
      show (A.deeper (envOfC qual (defScope stm) s.heap.objs.size f cdv)).units + 150 < cLine
      omega, hg⟩, takes_of rfl rfl rfl rfl, passes_of rfl, hr'⟩
  have hN : ps.length ≤ N.length := by have := congrArg List.length S.pre; rw [List.length_take] at this; omega
  have at0 : At ⟨P, w, K, mg⟩ (L2.start N vs) H (ds.map some ++ List.replicate (N.length - ds.length) none) st φ := by
    refine ⟨⟨?_, fun i d hd => ?_⟩, rs⟩
    · unfold L2.start
      simp only [List.length_append, List.length_map, List.length_replicate, rd.length]
    · by_cases hi : i < ds.length
      · rw [List.getElem?_append_left (by simpa using hi), List.getElem?_map] at hd
        cases e : ds[i]? with
        | none => rw [e] at hd; cases hd
        | some d' =>
          rw [e] at hd
          have : d' = d := by simpa using hd
          subst this
          obtain ⟨v, e1, r1⟩ := rd.get e
          refine ⟨v, ?_, r1⟩
          unfold L2.start
          rw [List.getElem?_append_left (by rw [List.length_map, ← rd.length]; exact hi), List.getElem?_map, e1]; rfl
      · rw [List.getElem?_append_right (by simpa using hi), List.getElem?_replicate] at hd
        split at hd <;> cases hd
  have p2 : PostE ⟨P, w, K, mg⟩ (fun c d _ H' => E c d H') H φ [] (retOf (body (ds.map some ++ List.replicate (N.length - ds.length) none) st)) Q := gc_ok rs hp
  refine wpAny_mono ((hbody cdv A outer s H E B).run [] s1 (L2.start N vs) H { nx := fun _ H' => Q .non H', rt := Q } I ⟨_, st, φ, at0, ?_⟩) (fun fl s' hs => ?_) fun e s' hs => hs
  · cases o : body (ds.map some ++ List.replicate (N.length - ds.length) none) st with
    | next e s => rw [o] at p2; exact fun H' φ' σ' ex a' => p2 H' φ' ex a'.rs _ .non
    | ret r s => rw [o] at p2; exact fun H' φ' v e s r => p2 H' φ' e s v r
    | brk e s => rw [o] at p2; exact p2.elim
    | cont e s => rw [o] at p2; exact p2.elim
    | exc y e s => rw [o] at p2; exact fun H' φ' σ' c d ex a' rx => p2 H' φ' c d ex a'.rs rx
    | stuck => rw [o] at p2; exact p2.elim
  · have fin : ∀ {σ' : L2.St} {H' : Hp} {v : V} {u : Value}, Inv (cxOf (L2.CX P w) P w K mg base N qual (defScope stm) f cdv A outer s H E) [] σ' H' s' → RelV v u → Q v H' → CE outer P w H s Q u s' :=
      fun {σ' H' v u} J rv q => ⟨v, H', J.os, J.bare, J.base, J.hok, rv, q⟩
    cases fl with
    | ret u =>
      obtain ⟨v, σ', H', J, rv, q⟩ := hs
      exact fin J rv q
    | next =>
      obtain ⟨σ', H', J, q⟩ := hs
      exact fin (v := V.non) (u := Value.none) J rfl q
    | brk =>
      obtain ⟨_, _, _, q⟩ := hs
      exact False.elim q
    | cont =>
      obtain ⟨_, _, _, q⟩ := hs
      exact False.elim q

/-! ### calls -/
noncomputable def fCall (F : FF) (g : FA) : FE := fun env st => gc st ((g env st).bind F)
/-- by names: the values in the parameters' order -/
def pick {α : Type} (ix : List Nat) (xs : List α) : List α := ix.filterMap fun i => xs[i]?
noncomputable def fCallK (F : FF) (ix : List Nat) (g : FA) : FE := fun env st => gc st ((g env st).bind fun ds st1 => F (pick ix ds) st1)
section
variable {X : Cx} {W : WX} {k : Nat} {f : Addr} {fd : FuncData} {ps : List Str} {F : FF} {x : Str} {p pos : Pos} {e : Expr} {es : List Expr} {g : FA}
theorem run_fnG {pins : List (Addr × Obj)} {σ : L2.St} {H : Hp} {s : Shared} {Q : VK} {us : List Value} {vs : List V} {φ : List Addr} {ds : List D} {st : Store} {kw : List (Str × Value)} {us' : List Value} (G : FnG X.prog X.w X.K X.mg X.base k f fd ps F) (hr : Room k X.A) (C : Cd X) (tk : Takes X W)
    (hb : BindsTo s fd ⟨us', kw⟩ (ps.zip us)) (I : Inv X pins σ H s) (r : Vals vs us) (hl : vs.length = ps.length) (rs : RS X.prog X.w X.K H φ st) (rd : RDs X.K H φ ds vs) (h : PostE X.md W H φ σ (F ds st) Q) : wpAny (model X.prog X.w) X.A (call (.ref f) us' kw) (EP X pins σ Q) X.xe s := by
  have h' : PostE ⟨X.prog, X.w, X.K, X.mg⟩ (fun c d _ H' => WE W σ c d H') H φ [] (F ds st) Q := by
    unfold PostE Post at h ⊢
    revert h
    generalize F ds st = o
    intro h
    cases o with
    | ok a st' => exact h
    | exc y st' => exact h
    | stuck => exact h
  refine wpAny_call (codeAny_mono (G.run X.A X.stack s H ⟨us', kw⟩ us vs Q (WE W σ) φ ds st hr C.hg I.env0 hb r hl rs rd h') fun r s' hq => ?_)
  cases r with
  | error e => exact passAt tk σ pins H s e s' I hq
  | ok fl =>
    cases fl with
    | ret u => exact I.after hq
    | next => exact False.elim hq
    | brk => exact False.elim hq
    | cont => exact False.elim hq
theorem se_call (G : FnG X.prog X.w X.K X.mg X.base k f fd ps F) (hr : Room k X.A) (C : Cd X) (tk : Takes X W) (hg : Gl X x) (hm : X.mg x = some (.ref f)) (hk : PySem.W.keepIn X.K (.ref f) = true) (hb : Binds X.K fd ps []) (hlen : (e :: es).length = ps.length)
    (ha : SA X W (e :: es) g) (hdb : (x == ("__debug__" : Str)) = false := by decide) (he : starEach (e :: es) X.env = (false, eval e X.env) :: starEach es X.env := by rfl) (hpl : (backTo pos (starEach es X.env)).any (·.1) = false := by rfl)
    (hgl : ∀ env st ds st', g env st = .ok ds st' → ds.length = (e :: es).length) :
    SE X W (.Call (.Name x p) (e :: es) [] pos) (fCall F g) := by
  refine ⟨fun pins s σ H Q I ⟨env, st, φ, a, q⟩ => ?_⟩
  refine wpAny_Call_Name_kw (ld_glob I hg hm ?_ hdb)
  have q' := gc_ok a.rs q
  have hgl' := hgl env st
  refine PySem.W.callWith_K (h₀ := X.base) I.ok.mod.kin hk (thn (ha.run pos pins s σ H (fun vs H1 => ∃ ds st1 φ1, Ext H φ H1 φ1 ∧ vs.length = ps.length ∧ RS X.prog X.w X.K H1 φ1 st1 ∧ RDs X.K H1 φ1 ds vs ∧ PostE X.md W H φ σ (F ds st1) Q) I ⟨env, st, φ, a, ?_⟩) fun us s1 ⟨vs, H1, I1, r, ds, st1, φ1, e1, hl, rs, rd, q1⟩ => ⟨I1.kIn, ?_⟩) he hpl
  · cases o : g env st with
    | ok ds st1 =>
      rw [o] at q'
      exact fun H' φ' ex s' vs rv => ⟨ds, st1, φ', ex, by rw [← rv.length, ← hlen]; exact hgl' ds st1 o, s', rv, q'⟩
    | exc y st1 => rw [o] at q'; exact q'
    | stuck => rw [o] at q'; exact q'
  · have b := hb s1 us I1.kIn (by rw [List.append_nil, ← r.length]; exact hl)
    rw [List.append_nil] at b
    exact run_fnG G hr C tk b I1 r hl rs rd (q1.rebase e1)
end
/-- f(a = .., b = ..) -/
abbrev SK (X : Cx) (W : WX) (kws : List Keyword) (g : FA) : Prop := PK X kws (tA X.md W g)
section
variable {X : Cx} {W : WX} {k : Nat} {f : Addr} {fd : FuncData} {ps ks : List Str} {F : FF} {x : Str} {p pos kpos : Pos} {e : Expr} {kws : List Keyword} {fe : FE} {g : FA} {nm : Option Str}
theorem sk_nil : SK X W [] fNil := ⟨fun pos pins s σ H Q I ⟨env, st, φ, a, q⟩ => pk_nil.run pos pins s σ H Q I (q H φ Ext.refl a.rs [] .nil)⟩
theorem sk_cons (he : SE X W e fe) (hr : SK X W kws g) : SK X W (⟨nm, e, kpos⟩ :: kws) (fCons fe g) := by
  refine ⟨fun pos pins s σ H Q I ⟨env, st, φ, a, h⟩ => (pk_cons he hr).run pos pins s σ H Q I ?_⟩
  refine ⟨env, st, φ, a, (Post.bind0 h).mono fun r H1 φ1 st1 e1 s1 q1 v rv => ?_⟩
  obtain ⟨φ2, s2, r2, e2, m2⟩ := alloc_ok s1 rv e1
  have a2 : At X.md σ H1 env (alloc r st1).2 φ2 := ⟨a.re.mono e2.mono, s2⟩
  have q2 := Post.rebase q1 e2
  refine ⟨env, _, φ2, a2, (PostA.bind q2).mono fun ds H3 φ3 st3 e3 s3 q3 vs rvs => ?_⟩
  exact q3 H3 φ3 Ext.refl s3 (v :: vs) (.cons (r2.mono e3.mono) rvs)
theorem pick_vals {ix : List Nat} {vs : List V} {us : List Value} (r : Vals vs us) : Vals (pick ix vs) (pick ix us) := by
  induction ix with
  | nil => exact .nil
  | cons i ix ih =>
    unfold pick at *
    rw [List.filterMap_cons, List.filterMap_cons]
    cases e : vs[i]? with
    | none => rw [Vals.none_of r e]; exact ih
    | some v =>
      obtain ⟨u, e1, r1⟩ := r.get e
      rw [e1]; exact .cons r1 ih
theorem pick_rds {K : PySem.W.Frag} {H : Hp} {φ : List Addr} {ix : List Nat} {ds : List D} {vs : List V} (r : RDs K H φ ds vs) : RDs K H φ (pick ix ds) (pick ix vs) := by
  induction ix with
  | nil => exact .nil
  | cons i ix ih =>
    unfold pick at *
    rw [List.filterMap_cons, List.filterMap_cons]
    cases e : ds[i]? with
    | none =>
      have : vs[i]? = none := by
        rw [List.getElem?_eq_none_iff] at e ⊢
        rw [← r.length]; exact e
      rw [this]; exact ih
    | some v =>
      obtain ⟨u, e1, r1⟩ := r.get e
      rw [e1]; exact .cons r1 ih
theorem se_callK {ix : List Nat} (G : FnG X.prog X.w X.K X.mg X.base k f fd ps F) (hr : Room k X.A) (C : Cd X) (tk : Takes X W) (hg : Gl X x) (hm : X.mg x = some (.ref f)) (hk : PySem.W.keepIn X.K (.ref f) = true)
    (hb : ∀ (s : Shared) (us : List Value), us.length = ks.length → BindsTo s fd ⟨[], ks.zip us⟩ (ps.zip (pick ix us))) (hix : ∀ vs : List V, vs.length = ks.length → (pick ix vs).length = ps.length)
    (ha : SK X W kws g) (hall : (backToKw pos (keywordEach kws X.env)).all (·.1.isSome) = true := by rfl) (hks : (backToKw pos (keywordEach kws X.env)).filterMap (·.1) = ks := by rfl)
    (hdb : (x == ("__debug__" : Str)) = false := by decide) (hpl : ((backTo pos (starEach [] X.env)).any (·.1) || (backToKw pos (keywordEach kws X.env)).any (·.1.isNone)) = false := by rfl)
    (hgl : ∀ env st ds st', g env st = .ok ds st' → ds.length = ks.length) :
    SE X W (.Call (.Name x p) [] kws pos) (fCallK F ix g) := by
  refine ⟨fun pins s σ H Q I ⟨env, st, φ, a, q⟩ => ?_⟩
  refine wpAny_Call_Name_kw (ld_glob I hg hm ?_ hdb)
  have q' := gc_ok a.rs q
  have hgl' := hgl env st
  refine PySem.W.callWith_KW0 (h₀ := X.base) I.ok.mod.kin hk hall (thn (ha.run pos pins s σ H (fun vs H1 => ∃ ds st1 φ1, Ext H φ H1 φ1 ∧ vs.length = ks.length ∧ RS X.prog X.w X.K H1 φ1 st1 ∧ RDs X.K H1 φ1 ds vs ∧ PostE X.md W H φ σ (F (pick ix ds) st1) Q) I ⟨env, st, φ, a, ?_⟩) fun us s1 ⟨vs, H1, I1, r, ds, st1, φ1, e1, hl, rs, rd, q1⟩ => ⟨I1.kIn, ?_⟩) hpl
  · cases o : g env st with
    | ok ds st1 =>
      rw [o] at q'
      exact fun H' φ' ex s' vs rv => ⟨ds, st1, φ', ex, by rw [← rv.length]; exact hgl' ds st1 o, s', rv, q'⟩
    | exc y st1 => rw [o] at q'; exact q'
    | stuck => rw [o] at q'; exact q'
  · rw [hks]
    exact run_fnG G hr C tk (hb s1 us (by rw [← r.length]; exact hl)) I1 (pick_vals r) (hix vs hl) rs (pick_rds rd) (q1.rebase e1)
end

/-! ### the end of a law -/
theorem law_callG {P : Program} {w : World} {K : PySem.W.Frag} {mg mb : Str → Option Value} {k : Nat} {fa a : Addr} {fd : FuncData} {x : Str} {F : FF} {s₁ : Shared} {vs : List Value} {ns : List Int}
    (KX : K.In s₁.heap) (hns : s₁.heap.Ns mainGlobals mg) (hb : s₁.heap.Ns builtinsNs mb) (hbb : ∀ x : Str, x ≠ "__name__" → mb x = bootBuiltins x) (hlim : s₁.heap.NoLimit) (hg : s₁.gens = #[])
    (ha : s₁.heap.get? a = some { cls := .type "list", data := .seq vs.toArray }) (hi : IntsAre vs ns) (hl : ns.length ≤ sizeLine) (hr : Room k callerA)
    (G : ∀ base : Heap, K.In base → base.Ns mainGlobals mg → FnG P w K mg base k fa fd [x] F) (hbind : ∀ (s : Shared) (u : Value), BindsTo s fd ⟨[u], []⟩ [(x, u)])
    (hF : ∃ st', F [.lz (ns.map .int)] [] = .ok (.v (.bl true)) st') :
    codeAny (model P w) callerA (.call (.ref fa) ⟨[.ref a], []⟩) (fun r s' => r = .ok (.ret (.bool true)) ∧ OldK s₁.heap s'.heap ∧ s'.os = s₁.os ∧ AllBare s'.gens) s₁ := by
  have rv := vals_ints hi
  have lenV := hi.length
  have core : ∀ H : Hp, Only H → SqL K H a (ns.map V.int) → HOk P w H s₁.heap → (∀ b, H b ≠ none → b = a) → (H a ≠ none → K.lookup a = none) →
      codeAny (model P w) callerA (.call (.ref fa) ⟨[.ref a], []⟩) (fun r s' => r = .ok (.ret (.bool true)) ∧ OldK s₁.heap s'.heap ∧ s'.os = s₁.os ∧ AllBare s'.gens) s₁ := by
    intro H hO hS hok hA hK
    have base_of : ∀ {b : Addr} {o : Obj}, s₁.heap.get? b = some o → H b = none → (hidT s₁.heap H).get? b = some o := fun e n => hidT_get e n
    have noA : ∀ {b : Addr} {o : Obj} {es : Array DictEntry} {ep : Nat}, s₁.heap.get? b = some o → o.data = .dict es ep → H b = none := fun {b o es ep} e d => by
      cases q : H b with
      | none => rfl
      | some u =>
        have e' : b = a := hA b (by rw [q]; simp)
        subst e'
        rw [ha] at e; cases e
        have d' : Data.seq vs.toArray _ = Data.dict es ep := d
        cases d'
    have nsK : ∀ {b : Addr} {m : Str → Option Value}, s₁.heap.Ns b m → (hidT s₁.heap H).Ns b m := fun {b m} ⟨o, es, ep, e, d, r⟩ => ⟨o, es, ep, base_of e (noA e d), d, r⟩
    have hKb : K.In (hidT s₁.heap H) := fun b o e => base_of (KX b o e) (by
      cases q : H b with
      | none => rfl
      | some u =>
        have e' : b = a := hA b (by rw [q]; simp)
        subst e'
        rw [hK (by rw [q]; simp)] at e; cases e)
    have hM : Mod K mg (hidT s₁.heap H) := ⟨hKb, nsK hns, ⟨mb, nsK hb, hbb⟩, let ⟨mc, h1, h2⟩ := hlim; ⟨mc, nsK h1, h2⟩⟩
    have e0 : Env0 P w K mg (hidT s₁.heap H) callerA [] s₁ H := ⟨rfl, hM, fun b o e => of_hidT e, Nat.le_of_eq (hidT_size _ _), trivial, fun b hb => absurd (show b ∈ ([] : List Addr) from hb) (by simp), hok, .of_eq hg⟩
    have fz : FzL K H a (ns.map V.int) := by
      rcases hS with (q | q) | q
      · rcases hO a with z | ⟨o, xs, z⟩
        · rw [q] at z; cases z
        · rw [q] at z; cases z
      · exact .inl q
      · exact .inr q
    obtain ⟨st', hF⟩ := hF
    refine codeAny_mono ((G _ hKb (nsK hns)).run callerA [] s₁ H ⟨[.ref a], []⟩ [.ref a] [.ref a] (fun v _ => v = .bl true) (fun _ _ _ => False) [] [.lz (ns.map .int)] [] hr rfl e0 (hbind s₁ (.ref a)) (.cons rfl .nil) rfl ⟨List.nodup_nil, .nil⟩ (.cons (.lz fz (rds_ints ns)) .nil) ?_) fun r s' h => ?_
    · rw [hF]
      exact fun H' φ' e s v rv => bl_ok (P := P) (w := w) (H0 := H) rv
    cases r with
    | error e =>
      obtain ⟨_, _, _, _, _, _, _, _, _, _, _, _, z⟩ := h
      exact z.elim
    | ok fl =>
      cases fl with
      | next => exact False.elim h
      | brk => exact False.elim h
      | cont => exact False.elim h
      | ret u =>
        obtain ⟨v, H', os, bare, un, hok', r', q⟩ := h
        have q' : v = .bl true := q
        subst q'
        obtain rfl : u = Value.bool true := r'
        refine ⟨rfl, OldK.of_keep fun b o e => ?_, os, bare⟩
        cases q : H b with
        | none => exact un.keep b o e q (by intro z; exact absurd (show b ∈ ([] : List Addr) from z) (by simp)) (by simp)
        | some u =>
          rcases hO b with z | ⟨ob, xs, z⟩
          · rw [q] at z; cases z
          · have z2 := un.frzs b ob _ z
            obtain ⟨e1, _⟩ := hok b _ z
            obtain ⟨e2, _⟩ := hok' b _ z2
            rw [e] at e1; cases e1
            exact e2
  cases hk : K.lookup a with
  | some o =>
    have e := KX a o hk
    rw [ha] at e
    cases e
    refine core (fun _ => none) (fun _ => .inl rfl) (.inr ⟨_, vs.toArray, _, hk, rfl, rfl, rfl, by rw [List.size_toArray, lenV]; exact hl, by simpa using rv⟩) (fun b u z => by have z' : (none : Option HO) = some u := z; cases z') (fun b z => absurd rfl z) fun z => absurd rfl z
  | none =>
    refine core (fun b => if b = a then some (.frz { cls := .type "list", data := .seq vs.toArray } (.lst (ns.map V.int))) else none) (fun b => ?_) (.inl (.inr ⟨{ cls := .type "list", data := .seq vs.toArray }, if_pos rfl⟩)) (fun b u z => ?_) (fun b z => ?_) fun _ => hk
    · by_cases hb : b = a
      · exact .inr ⟨_, _, if_pos hb⟩
      · exact .inl (if_neg hb)
    · by_cases hb : b = a
      · have z' := (if_pos hb).symm.trans z
        cases z'
        subst hb
        exact ⟨ha, by rw [List.length_map]; exact hl, vs, _, rv, ha⟩
      · have z' := (if_neg hb).symm.trans z
        cases z'
    · by_cases hb : b = a
      · exact hb
      · exact absurd (if_neg hb) z
theorem walk_G {l : PySem.W.OpenLaw} {n k : Nat} {q : Program} {loose : List Str} {XP : (Str → Option Value) → Heap → Prop} {YP : World → Heap → Prop} {d : DefRec} {x : Str} {F : FF}
    (hn : l.most = some n) (hn2 : n ≤ sizeLine) (hdf : d.params.defaults = []) (hr : Room k callerA)
    (G : ∀ (w : World) (mg : Str → Option Value) (fa : Addr) (h : Heap), YP w h → h.Ns mainGlobals mg → mg d.name = some (.ref fa) →
      ∃ (K : PySem.W.Frag) (fd : FuncData), K.In h ∧ (∀ (s : Shared) (u : Value), BindsTo s fd ⟨[u], []⟩ [(x, u)]) ∧ ∀ base : Heap, K.In base → base.Ns mainGlobals mg → FnG l.prog w K mg base k fa fd [x] F)
    (hF : ∀ ns : List Int, ns.length ≤ n → (∀ z ∈ ns, Builtin.Int.intBits z ≤ 1048576) → ∃ st', F [.lz (ns.map .int)] [] = .ok (.v (.bl true)) st') :
    PySem.W.WalkO q loose XP YP l.row.toRowW d [] (fun f vs => PySem.call f vs) := by
  refine Att.attach_callB hn hdf fun w s₀ s₁ mg mb fa o pm cd doc a vs ns Gd Y ho hd hcd hmg hobj hints hlen hbits hg => ?_
  obtain ⟨K, fd, KX, hb, hG⟩ := G w mg fa _ Y Gd.T.g hmg
  exact law_callG KX Gd.T.g Gd.T.b Gd.T.builtins Gd.T.nolimit hg hobj hints (Nat.le_trans hlen hn2) hr hG hb (hF ns hlen hbits)
end Fx

set_option Elab.async false
set_option linter.all false
set_option maxRecDepth 100000
set_option maxHeartbeats 4000000
set_option autoImplicit false
/-! Fx, part M: zip and enumerate over lists and tuples, whatever the target is. -/
namespace Fx
open PySem PySem.Spec PyProof.Rows L2
open Sem (wp)

/-- zip's record: its first two cells may be anything that a walk leaves there -/
abbrev Zf (h : Heap) (z TI TO : Addr) (f0 : Value) (f1 : Bool) : Prop :=
  h.get? z = some { cls := .type "zip", dict := none, data := .fields #[f0, .bool f1, .bool false, .ref TI, .ref TO], slots := #[] }
def ZOut (h : Heap) (z TI TO : Addr) : Prop := ∃ f0 f1, Zf h z TI TO f0 f1 ∧ (f0 = .none ∨ ∃ T : Addr, f0 = rawInt T)
section
variable {prog : Program} {w : World} {A : Around} {E : Value → Shared → Prop} {s : Shared} {z TI TO i1 i2 : Addr} {fp1 fp2 : List Addr} {n1 n2 i : Nat} {P1 P2 : Nat → Value → Prop} {St1 St2 : Nat → Heap → Prop} {a1 a2 : Value}
/-- one step, then another -/
theorem bd {α β : Type} {M : Model} {m : Sem α} {k : α → Sem β} {Q : β → Shared → Prop} (h : wpAny M A m (fun a s1 => wpAny M A (k a) Q E s1) E s) : wpAny M A (m >>= k) Q E s := wpAny_bind h
theorem alive {a : Addr} {Q : Option Obj → Shared → Prop} (h : Q (s.heap.get? a) s) : wpAny (model prog w) A (loadIfAlive a) Q E s := fun _ _ _ => h
theorem zip_owned {Q : Bool → Shared → Prop} (hz : ZOut s.heap z TI TO) (ht : ∀ f0 f1, Zf s.heap z TI TO f0 f1 → Q true s) (hf : ∀ h' T, Zf h' z TI TO (rawInt (T : Nat)) true → Heap.SameBut z s.heap h' → Q false { s with heap := h' }) :
    wpAny (model prog w) A (Builtin.SmallTypes.ownedTupleIsFree (.ref z)) Q E s := by
  obtain ⟨f0, f1, h, e | ⟨T, e⟩⟩ := hz
  · subst e
    unfold Builtin.SmallTypes.ownedTupleIsFree
    exact bd (wpAny_field h rfl (x := Value.none) rfl (wpAny_pure (ht _ _ h)))
  · subst e
    cases g : s.heap.get? T with
    | some o => exact wpAny_tupleHeld_zip h g fun h' k1 k2 => hf h' T k1 k2
    | none =>
      unfold Builtin.SmallTypes.ownedTupleIsFree
      refine bd (wpAny_field h rfl (x := rawInt (T : Nat)) rfl ?_)
      show wpAny _ _ (loadIfAlive (((T : Nat) : Int).toNat) >>= _) _ _ _
      rw [Int.toNat_natCast]
      refine bd (alive ?_)
      rw [g]
      exact wpAny_pure (ht _ _ h)
theorem zOut_of {h : Heap} {f1 : Bool} {T : Nat} (k : Zf h z TI TO (rawInt T) f1) : ZOut h z TI TO := ⟨_, _, k, .inr ⟨T, rfl⟩⟩
/-- what is left as it was -/
abbrev Left (z TO i1 i2 : Addr) (h h' : Heap) : Prop := ∀ c o, c ≠ z → c ≠ TO → c ≠ i1 → c ≠ i2 → h.get? c = some o → h'.get? c = some o
abbrev ZAll (St1 St2 : Nat → Heap → Prop) (i : Nat) (h : Heap) (z TI TO i1 i2 : Addr) : Prop := ZOut h z TI TO ∧ (∃ x y, IsTupOf2 h TO x y) ∧ St1 i h ∧ St2 i h
theorem zip_goes {Q : Value → Shared → Prop} (S : ZipSep2 z TI TO i1 i2 fp1 fp2) (D1 : Draws prog w A i1 fp1 n1 P1 St1) (D2 : Draws prog w A i2 fp2 n2 P2 St2)
    (hI : IsTupOf2 s.heap TI (.ref i1) (.ref i2)) (hA : ZAll St1 St2 i s.heap z TI TO i1 i2) (l1 : i < n1) (l2 : i < n2)
    (k : ∀ x1 x2 h' tk, P1 i x1 → P2 i x2 → ZAll St1 St2 (i + 1) h' z TI TO i1 i2 → IsTupOf2 h' s.heap.objs.size x1 x2 → h'.objs.size = s.heap.objs.size + 1 → Left z TO i1 i2 s.heap h' → Q (.ref s.heap.objs.size) { s with heap := h', toks := tk }) :
    wpAny (model prog w) A (Builtin.«zip.__next__» ⟨[.ref z], []⟩) (fun fin s' => ∃ v, fin = .done (.ret v) ∧ Q v s') E s := by
  obtain ⟨hp, g, d, tk0, os⟩ := s
  obtain ⟨hz, ⟨u1, u2, hO⟩, w1, w2⟩ := hA
  obtain ⟨f0, f1, hZ, hf0⟩ := id hz
  show wpAny _ _ (field (.ref z) 2 >>= _) _ _ ⟨hp, g, d, tk0, os⟩
  refine bd (wpAny_field hZ rfl (x := Value.bool false) rfl ?_)
  show wpAny _ _ (field (.ref z) 3 >>= _) _ _ ⟨hp, g, d, tk0, os⟩
  refine bd (wpAny_field hZ rfl (x := Value.ref TI) rfl (bd (wpAny_seqItems hI rfl ?_)))
  show wpAny _ _ (Builtin.SmallTypes.ownedTupleIsFree (.ref z) >>= _) _ _ ⟨hp, g, d, tk0, os⟩
  refine bd (zip_owned hz (fun f0 f1 hZ => ?_) fun hh T hT sT => ?_)
  · show wpAny _ _ (rule _ >>= _) _ _ _
    refine bd (wpAny_rule (bd (wpAny_field hZ rfl (x := Value.ref TO) rfl (bd (wpAny_setField_rec hZ (by simp) fun b0 z0 e0 => bd ?_)))))
    have z0' : Zf b0 z TI TO .ellipsis f1 := z0
    have e0' : Heap.SameBut z hp b0 := e0
    simp only [List.zipIdx_nil, List.zipIdx_cons, List.forIn_nil, List.forIn_cons]
    refine bd (bd (wpAny_onRaise ?_))
    show wpAny _ _ (Builtin.SmallTypes.nextOf (Value.ref i1) >>= _) _ _ ⟨b0, g, d, tk0, os⟩
    refine bd (D1.item i _ _ _ l1 (D1.over w1 e0' S.zf1) fun x1 b1 t1 y1 w1a e1 => wpAny_pure ?_)
    have e1' : Heap.SameBut i1 b0 b1 := e1
    have O1 : IsTupOf2 b1 TO u1 u2 := e1'.extBut _ _ S.Ti1 (e0'.extBut _ _ S.TOz hO)
    refine bd (wpAny_seqItems (s := ⟨b1, g, d, t1, os⟩) O1 rfl (bd (updateSeq_IsTupOf2 (s := ⟨b1, g, d, t1, os⟩) O1 fun b2 O2 e2 => bd (wpAny_letGo (wpAny_pure ?_)))))
    have O2' : IsTupOf2 b2 TO x1 u2 := O2
    have e2' : Heap.SameBut TO b1 b2 := e2
    refine bd (bd (wpAny_onRaise ?_))
    show wpAny _ _ (Builtin.SmallTypes.nextOf (Value.ref i2) >>= _) _ _ ⟨b2, g, d, t1, os⟩
    refine bd (D2.item i _ _ _ l2 (D2.over (D2.over (D2.over w2 e0' S.zf2) e1' S.sep1_2) e2' S.Tf2) fun x2 b3 t2 y2 w2a e3 => wpAny_pure ?_)
    have e3' : Heap.SameBut i2 b2 b3 := e3
    have O3 : IsTupOf2 b3 TO x1 u2 := e3'.extBut _ _ S.Ti2 O2'
    refine bd (wpAny_seqItems (s := ⟨b3, g, d, t2, os⟩) O3 rfl (bd (updateSeq_IsTupOf2 (s := ⟨b3, g, d, t2, os⟩) O3 fun b4 O4 e4 => bd (wpAny_letGo (wpAny_pure (wpAny_pure ?_))))))
    have O4' : IsTupOf2 b4 TO x1 x2 := O4
    have e4' : Heap.SameBut TO b3 b4 := e4
    refine bd (wpAny_seqItems (s := ⟨b4, g, d, t2, os⟩) O4' rfl (bd (wpAny_newTuple ?_)))
    have sz : b4.objs.size = hp.objs.size := ((e4'.1.trans e3'.1).trans (e2'.1.trans e1'.1)).trans e0'.1
    have zz : Zf b4 z TI TO .ellipsis f1 := e4'.extBut _ _ S.TOz.symm (e3'.extBut _ _ S.zi2 (e2'.extBut _ _ S.TOz.symm (e1'.extBut _ _ S.zi1 z0')))
    have lf : Left z TO i1 i2 hp b4 := fun c o cz cT c1 c2 e => e4'.extBut _ _ cT (e3'.extBut _ _ c2 (e2'.extBut _ _ cT (e1'.extBut _ _ c1 (e0'.extBut _ _ cz e))))
    have q1 : St1 (i + 1) b4 := D1.over (D1.over (D1.over w1a e2' S.Tf1) e3' S.sep2_1) e4' S.Tf1
    have q2 : St2 (i + 1) b4 := D2.over w2a e4' S.Tf2
    have zl : z < b4.objs.size := Heap.lt_size zz
    show wpAny _ _ (Builtin.SmallTypes.ownedTupleHandOut (.ref z) (.ref b4.objs.size) >>= _) _ _ ⟨b4.push { cls := .type "tuple", data := .seq #[x1, x2] }, g, d, t2, os⟩
    refine bd ?_
    unfold Builtin.SmallTypes.ownedTupleHandOut
    have z5 : Zf (b4.push { cls := .type "tuple", data := .seq #[x1, x2] }) z TI TO .ellipsis f1 := Heap.get?_push_of_some _ zz
    refine bd (wpAny_setField_rec z5 (by simp) fun b6 z6 e6 => ?_)
    have z6' : Zf b6 z TI TO (rawInt b4.objs.size) f1 := z6
    have e6' : Heap.SameBut z (b4.push { cls := .type "tuple", data := .seq #[x1, x2] }) b6 := e6
    refine wpAny_setField_rec z6' (by simp) fun b7 z7 e7 => wpAny_pure ⟨_, rfl, ?_⟩
    have z7' : Zf b7 z TI TO (rawInt b4.objs.size) false := z7
    have e7' : Heap.SameBut z b6 b7 := e7
    have up : ∀ c o, c ≠ z → b4.get? c = some o → b7.get? c = some o := fun c o cz e => e7'.extBut _ _ cz (e6'.extBut _ _ cz (Heap.get?_push_of_some _ e))
    have new : IsTupOf2 b7 b4.objs.size x1 x2 := e7'.extBut _ _ (Nat.ne_of_gt zl) (e6'.extBut _ _ (Nat.ne_of_gt zl) (Heap.get?_push_size _ rfl))
    have sz7 : b7.objs.size = b4.objs.size + 1 := (e7'.1.trans e6'.1).trans (Heap.size_push ..)
    show Q (.ref b4.objs.size) ⟨b7, g, d, t2, os⟩
    rw [sz] at z7' new sz7 ⊢
    exact k x1 x2 b7 t2 y1 y2 ⟨zOut_of z7', ⟨x1, x2, up _ _ S.TOz O4'⟩, D1.frame _ _ _ q1 fun b hb o e => up b o (fun q => S.zf1 (q ▸ hb)) e, D2.frame _ _ _ q2 fun b hb o e => up b o (fun q => S.zf2 (q ▸ hb)) e⟩ new sz7
      fun c o cz cT c1 c2 e => up c o cz (lf c o cz cT c1 c2 e)
  · have sT' : Heap.SameBut z hp hh := sT
    show wpAny _ _ _ _ _ ⟨hh, g, d, tk0, os⟩
    simp only [Bool.false_eq_true, if_false]
    refine bd ?_
    rw [← Array.forIn_toList]
    simp only [List.forIn_nil, List.forIn_cons]
    refine bd (bd (wpAny_holding ?_))
    show wpAny _ _ (Builtin.SmallTypes.nextOf (Value.ref i1) >>= _) _ _ ⟨hh, g, d, tk0, os⟩
    refine bd (D1.item i _ _ _ l1 (D1.over w1 sT' S.zf1) fun x1 b1 t1 y1 w1a e1 => wpAny_pure (wpAny_pure ?_))
    have e1' : Heap.SameBut i1 hh b1 := e1
    refine bd (bd (wpAny_holding ?_))
    show wpAny _ _ (Builtin.SmallTypes.nextOf (Value.ref i2) >>= _) _ _ ⟨b1, g, d, t1, os⟩
    refine bd (D2.item i _ _ _ l2 (D2.over (D2.over w2 sT' S.zf2) e1' S.sep1_2) fun x2 b2 t2 y2 w2a e2 => wpAny_pure (wpAny_pure (wpAny_pure ?_)))
    have e2' : Heap.SameBut i2 b1 b2 := e2
    show wpAny _ _ (newTuple [x1, x2] >>= _) _ _ ⟨b2, g, d, t2, os⟩
    refine bd (wpAny_newTuple (wpAny_pure ⟨_, rfl, ?_⟩))
    have sz : b2.objs.size = hp.objs.size := (e2'.1.trans e1'.1).trans sT'.1
    have zz : Zf b2 z TI TO (rawInt (T : Nat)) true := e2'.extBut _ _ S.zi2 (e1'.extBut _ _ S.zi1 hT)
    have lf : Left z TO i1 i2 hp b2 := fun c o cz cT c1 c2 e => e2'.extBut _ _ c2 (e1'.extBut _ _ c1 (sT'.extBut _ _ cz e))
    have q1 : St1 (i + 1) b2 := D1.over w1a e2' S.sep2_1
    have up : ∀ c o, b2.get? c = some o → (b2.push { cls := .type "tuple", data := .seq #[x1, x2] }).get? c = some o := fun c o e => Heap.get?_push_of_some _ e
    have new : IsTupOf2 (b2.push { cls := .type "tuple", data := .seq #[x1, x2] }) b2.objs.size x1 x2 := Heap.get?_push_size _ rfl
    have sz7 : (b2.push { cls := .type "tuple", data := .seq #[x1, x2] }).objs.size = b2.objs.size + 1 := Heap.size_push ..
    show Q (.ref b2.objs.size) ⟨b2.push { cls := .type "tuple", data := .seq #[x1, x2] }, g, d, t2, os⟩
    have O : IsTupOf2 b2 TO u1 u2 := e2'.extBut _ _ S.Ti2 (e1'.extBut _ _ S.Ti1 (sT'.extBut _ _ S.TOz hO))
    rw [sz] at new sz7 ⊢
    exact k x1 x2 _ t2 y1 y2 ⟨zOut_of (up _ _ zz), ⟨u1, u2, up _ _ O⟩, D1.frame _ _ _ q1 fun b hb o e => up b o e, D2.frame _ _ _ w2a fun b hb o e => up b o e⟩ new sz7
      fun c o cz cT c1 c2 e => up c o (lf c o cz cT c1 c2 e)
theorem zip_ends {Q : Fin → Shared → Prop} (S : ZipSep2 z TI TO i1 i2 fp1 fp2) (D1 : Draws prog w A i1 fp1 n1 P1 St1) (D2 : Draws prog w A i2 fp2 n2 P2 St2)
    (hI : IsTupOf2 s.heap TI (.ref i1) (.ref i2)) (hA : ZAll St1 St2 i s.heap z TI TO i1 i2) (l1 : i ≤ n1) (l2 : i ≤ n2) (he : i = n1 ∨ i = n2)
    (hE : ∀ h' tk e, Left z TO i1 i2 s.heap h' → (∃ o, h'.get? e = some o ∧ o.cls = .type "StopIteration") → E (.ref e) { s with heap := h', toks := tk }) :
    wpAny (model prog w) A (Builtin.«zip.__next__» ⟨[.ref z], []⟩) Q E s := by
  obtain ⟨hp, g, d, tk0, os⟩ := s
  obtain ⟨hz, ⟨u1, u2, hO⟩, w1, w2⟩ := hA
  obtain ⟨f0, f1, hZ, hf0⟩ := id hz
  show wpAny _ _ (field (.ref z) 2 >>= _) _ _ ⟨hp, g, d, tk0, os⟩
  refine bd (wpAny_field hZ rfl (x := Value.bool false) rfl ?_)
  show wpAny _ _ (field (.ref z) 3 >>= _) _ _ ⟨hp, g, d, tk0, os⟩
  refine bd (wpAny_field hZ rfl (x := Value.ref TI) rfl (bd (wpAny_seqItems hI rfl ?_)))
  show wpAny _ _ (Builtin.SmallTypes.ownedTupleIsFree (.ref z) >>= _) _ _ ⟨hp, g, d, tk0, os⟩
  refine bd (zip_owned hz (fun f0 f1 hZ => ?_) fun hh T hT sT => ?_)
  · show wpAny _ _ (rule _ >>= _) _ _ _
    refine bd (wpAny_rule (bd (wpAny_field hZ rfl (x := Value.ref TO) rfl (bd (wpAny_setField_rec hZ (by simp) fun b0 z0 e0 => bd ?_)))))
    have z0' : Zf b0 z TI TO .ellipsis f1 := z0
    have e0' : Heap.SameBut z hp b0 := e0
    simp only [List.zipIdx_nil, List.zipIdx_cons, List.forIn_nil, List.forIn_cons]
    refine bd (bd (wpAny_onRaise ?_))
    show wpAny _ _ (Builtin.SmallTypes.nextOf (Value.ref i1) >>= _) _ _ ⟨b0, g, d, tk0, os⟩
    by_cases c1 : i < n1
    · refine bd (D1.item i _ _ _ c1 (D1.over w1 e0' S.zf1) fun x1 b1 t1 y1 w1a e1 => wpAny_pure ?_)
      have e1' : Heap.SameBut i1 b0 b1 := e1
      have O1 : IsTupOf2 b1 TO u1 u2 := e1'.extBut _ _ S.Ti1 (e0'.extBut _ _ S.TOz hO)
      refine bd (wpAny_seqItems (s := ⟨b1, g, d, t1, os⟩) O1 rfl (bd (updateSeq_IsTupOf2 (s := ⟨b1, g, d, t1, os⟩) O1 fun b2 O2 e2 => bd (wpAny_letGo (wpAny_pure ?_)))))
      have e2' : Heap.SameBut TO b1 b2 := e2
      have c2 : i = n2 := by omega
      refine bd (bd (wpAny_onRaise ?_))
      show wpAny _ _ (Builtin.SmallTypes.nextOf (Value.ref i2) >>= _) _ _ ⟨b2, g, d, t1, os⟩
      have w2b : St2 n2 b2 := by
        have := D2.over (D2.over (D2.over w2 e0' S.zf2) e1' S.sep1_2) e2' S.Tf2
        rwa [c2] at this
      refine bd (D2.done ⟨b2, g, d, t1, os⟩ _ _ w2b fun b3 e k3 ⟨oe, he1, he2⟩ => ?_)
      have k3' : Heap.ExtBut i2 b2 b3 := k3
      have he1' : b3.get? e = some oe := he1
      have z3 : Zf b3 z TI TO .ellipsis f1 := k3' _ _ S.zi2 (e2'.extBut _ _ S.TOz.symm (e1'.extBut _ _ S.zi1 z0'))
      have ne : e ≠ z := fun x => by
        rw [x, z3] at he1'
        cases he1'
        simp at he2
      refine wpAny_setField_rec (s := ⟨b3, g, d, t1, os⟩) z3 (by simp) fun b4 _ k4 => ?_
      have k4' : Heap.SameBut z b3 b4 := k4
      exact hE b4 t1 e (fun c o cz cT q1 q2 x => k4'.extBut _ _ cz (k3' _ _ q2 (e2'.extBut _ _ cT (e1'.extBut _ _ q1 (e0'.extBut _ _ cz x))))) ⟨oe, k4'.extBut _ _ ne he1', he2⟩
    · have c2 : i = n1 := by omega
      have w1b : St1 n1 b0 := by
        have := D1.over w1 e0' S.zf1
        rwa [c2] at this
      refine bd (D1.done ⟨b0, g, d, tk0, os⟩ _ _ w1b fun b3 e k3 ⟨oe, he1, he2⟩ => ?_)
      have k3' : Heap.ExtBut i1 b0 b3 := k3
      have he1' : b3.get? e = some oe := he1
      have z3 : Zf b3 z TI TO .ellipsis f1 := k3' _ _ S.zi1 z0'
      have ne : e ≠ z := fun x => by
        rw [x, z3] at he1'
        cases he1'
        simp at he2
      refine wpAny_setField_rec (s := ⟨b3, g, d, tk0, os⟩) z3 (by simp) fun b4 _ k4 => ?_
      have k4' : Heap.SameBut z b3 b4 := k4
      exact hE b4 tk0 e (fun c o cz cT q1 q2 x => k4'.extBut _ _ cz (k3' _ _ q1 (e0'.extBut _ _ cz x))) ⟨oe, k4'.extBut _ _ ne he1', he2⟩
  · have sT' : Heap.SameBut z hp hh := sT
    show wpAny _ _ _ _ _ ⟨hh, g, d, tk0, os⟩
    simp only [Bool.false_eq_true, if_false]
    refine bd ?_
    rw [← Array.forIn_toList]
    simp only [List.forIn_nil, List.forIn_cons]
    refine bd (bd (wpAny_holding ?_))
    show wpAny _ _ (Builtin.SmallTypes.nextOf (Value.ref i1) >>= _) _ _ ⟨hh, g, d, tk0, os⟩
    by_cases c1 : i < n1
    · refine bd (D1.item i _ _ _ c1 (D1.over w1 sT' S.zf1) fun x1 b1 t1 y1 w1a e1 => wpAny_pure (wpAny_pure ?_))
      have e1' : Heap.SameBut i1 hh b1 := e1
      have c2 : i = n2 := by omega
      refine bd (bd (wpAny_holding ?_))
      show wpAny _ _ (Builtin.SmallTypes.nextOf (Value.ref i2) >>= _) _ _ ⟨b1, g, d, t1, os⟩
      have w2b : St2 n2 b1 := by
        have := D2.over (D2.over w2 sT' S.zf2) e1' S.sep1_2
        rwa [c2] at this
      refine bd (D2.done ⟨b1, g, d, t1, os⟩ _ _ w2b fun b3 e k3 he1 => ?_)
      have k3' : Heap.ExtBut i2 b1 b3 := k3
      exact hE b3 t1 e (fun c o cz cT q1 q2 x => k3' _ _ q2 (e1'.extBut _ _ q1 (sT'.extBut _ _ cz x))) he1
    · have c2 : i = n1 := by omega
      have w1b : St1 n1 hh := by
        have := D1.over w1 sT' S.zf1
        rwa [c2] at this
      refine bd (D1.done ⟨hh, g, d, tk0, os⟩ _ _ w1b fun b3 e k3 he1 => ?_)
      have k3' : Heap.ExtBut i1 hh b3 := k3
      exact hE b3 tk0 e (fun c o cz cT q1 q2 x => k3' _ _ q1 (sT'.extBut _ _ cz x)) he1
end
end Fx

set_option Elab.async false
set_option linter.all false
set_option maxRecDepth 100000
set_option maxHeartbeats 4000000
set_option autoImplicit false
/-! Fx, part N: zip and enumerate as what is walked. -/
namespace Fx
open PySem PySem.Spec PyProof.Rows L2
open Sem (wp)

/-- a list or a tuple, as one side of a walk -/
structure Half (P : Program) (w : World) (K : PySem.W.Frag) (a it : Addr) (S : Hp → List V → Prop) (tn : Nat → Heap → Prop) (o : Obj) (body : Array Value → Heap → Prop) : Prop where
  live : ∀ i h, tn i h → ∃ o, h.get? it = some o ∧ ∀ v, o.data ≠ .cell v
  keep : ∀ i h h', tn i h → (∀ o, h.get? it = some o → h'.get? it = some o) → tn i h'
  inv : ∀ (X : Cx), X.prog = P → X.w = w → X.K = K → ∀ (pins : List (Addr × Obj)) (σ : L2.St) (H : Hp) (s : Shared) (xs : List V), Inv X pins σ H s → S H xs → ∃ its, Vals xs its ∧ body its.toArray s.heap ∧ a < s.heap.objs.size
  inj : ∀ (X : Cx), X.prog = P → X.w = w → X.K = K → ∀ (pins : List (Addr × Obj)) (σ : L2.St) (H : Hp) (s : Shared) (xs ys : List V), Inv X pins σ H s → S H xs → S H ys → xs = ys
  draws : ∀ (A : Around) (items : Array Value), A.handled = none → a ≠ it → Draws P w A it [it, a] items.size (fun i v => items[i]? = some v) (fun i h => tn i h ∧ body items h)
  begins : ∀ items, Begins (.ref a) o (body items)
  first : ∀ h, h.get? it = some o → tn 0 h
variable {P : Program} {w : World} {K : PySem.W.Frag} {a it b jt : Addr}
theorem half_list : Half P w K a it (fun H xs => SqL K H a xs) (fun i h => h.IsListIter it a i) { cls := .type "list_iterator", data := .fields #[.ref a, .int 0 0] } (fun items h => h.IsList a items) where
  live := fun i h ⟨o, e, _, d⟩ => ⟨o, e, fun v q => by rw [d] at q; cases q⟩
  keep := fun i h h' t k => t.at k
  inv := fun X hP hw hK pins σ H s xs I q => by
    subst hP hw hK
    obtain ⟨its, r, p, _⟩ := I.list q
    exact ⟨its, r, p.isList, p.lt⟩
  inj := fun X hP hw hK pins σ H s xs ys I q q' => by
    subst hP hw hK
    exact I.list_inj q q'
  draws := fun A items h n => Draws.list h it a n items
  begins := fun items => begins_list a items
  first := fun h e => ⟨_, e, rfl, rfl⟩
theorem half_tup : Half P w K a it (fun H xs => SqT K H a xs) (fun i h => h.IsTupleIter it a i) { cls := .type "tuple_iterator", data := .fields #[.ref a, .int 0 0] } (fun items h => h.IsTuple a items) where
  live := fun i h ⟨o, e, _, d⟩ => ⟨o, e, fun v q => by rw [d] at q; cases q⟩
  keep := fun i h h' t k => t.at k
  inv := fun X hP hw hK pins σ H s xs I q => by
    subst hP hw hK
    obtain ⟨its, r, p, _⟩ := I.tuple q
    obtain ⟨o, ho, _⟩ := id p
    exact ⟨its, r, p, Heap.lt_size ho⟩
  inj := fun X hP hw hK pins σ H s xs ys I q q' => by
    subst hP hw hK
    exact I.tuple_inj q q'
  draws := fun A items h n => Draws.tuple h it a n items
  begins := fun items => begins_tuple a items
  first := fun h e => ⟨_, e, rfl, rfl⟩

/-- one item of each, in a new pair -/
def ItG (S1 S2 : Hp → List V → Prop) : It :=
  ⟨fun i H => ∃ (xs ys : List V) (x y : V), S1 H xs ∧ S2 H ys ∧ xs[i]? = some x ∧ ys[i]? = some y,
    fun i H v H' => ∃ T x y, v = .ref T ∧ H T = none ∧ H' = upd H T (.tup [x, y]) ∧ (∀ xs, S1 H xs → xs[i]? = some x) ∧ ∀ ys, S2 H ys → ys[i]? = some y,
    fun i H => ∃ xs ys : List V, S1 H xs ∧ S2 H ys ∧ i ≤ xs.length ∧ i ≤ ys.length ∧ (xs.length = i ∨ ys.length = i)⟩

section
variable {z TI TO : Addr} {A : Around} {E : Value → Shared → Prop} {s : Shared}
/-- the step ahead of the store leaves a zip a zip -/
theorem let_zip {tg : Expr} {T : Addr} {Q : Unit → Shared → Prop} (hz : ZOut s.heap z TI TO) (hQ : ∀ h', ZOut h' z TI TO → Heap.SameBut z s.heap h' → Q () { s with heap := h' }) :
    wpAny (model P w) A (letOwnedTupleGo tg (.ref z) (.ref T)) Q E s := by
  have hp : Q () s := hQ s.heap hz (Heap.SameBut.refl _ _)
  obtain ⟨f0, f1, h, hf⟩ := id hz
  have main : ∀ (e : Expr), (letOwnedTupleGo e (.ref z) (.ref T) = do
      let o ← load z
      match o.cls, o.data with
      | .type n, .fields vs =>
        if ["enumerate", "zip", "dict_itemiterator", "dict_reverseitemiterator", "odict_iterator", "itertools.zip_longest", "itertools.pairwise"].contains n && vs[0]? == some (rawInt T) then
          rule "for.unpacks-the-owned-tuple"
          updateField z 0 .none
      | _, _ => pure ()) → wpAny (model P w) A (letOwnedTupleGo e (.ref z) (.ref T)) Q E s := fun e q => by
    rw [q]
    refine bd (wpAny_load h ?_)
    show wpAny _ _ (if _ then _ else _) Q E s
    split
    · refine bd (wpAny_rule ?_)
      show wpAny _ _ (setField (.ref z) 0 Value.none) Q E s
      exact wpAny_setField_rec h (by simp) fun h' z' s' => hQ h' ⟨_, _, z', .inl rfl⟩ s'
    · exact wpAny_pure hp
  cases tg with
  | Tuple _ _ _ => exact main _ rfl
  | List _ _ => exact main _ rfl
  | _ => exact wpAny_pure hp
theorem zip_self {Q : Value → Shared → Prop} (hz : ZOut s.heap z TI TO) (h : Q (.ref z) s) : wpAny (model P w) A (pyIter (.ref z)) Q E s := by
  obtain ⟨f0, f1, e, _⟩ := hz
  have t : s.TypeIs (.ref z) "zip" := ⟨_, e, rfl⟩
  refine wpAny_pyIter_slot t F.slot_zip_iter (wpAny_call_entry F.slot_zip_iter t F.entry_zip_iter ?_ (F.args_zip_iter_1 _))
  show wpAny _ _ (ret (.ref z)) _ _ s
  exact wpAny_pure ⟨_, rfl, "zip", _, t, F.slot_zip_next.lookup, h⟩
end

theorem turn_G {S1 S2 : Hp → List V → Prop} {tn1 tn2 : Nat → Heap → Prop} {o1 o2 : Obj} {B1 B2 : Array Value → Heap → Prop} {tg : Expr} {N : Nat} (G1 : Half P w K a N S1 tn1 o1 B1) (G2 : Half P w K b (N + 1) S2 tn2 o2 B2) (ha : a < N) (hb : b < N) :
    Turn P w K tg (ItG S1 S2) [N + 4, N + 2, N + 3, N, N + 1] (N + 4) (fun i h => ZOut h (N + 4) (N + 2) (N + 3) ∧ (∃ x y, IsTupOf2 h (N + 3) x y) ∧ IsTupOf2 h (N + 2) (.ref N) (.ref (N + 1)) ∧ tn1 i h ∧ tn2 i h) := by
  have S : ZipSep2 (N + 4) (N + 2) (N + 3) N (N + 1) [N, a] [N + 1, b] := zip_sep2 (fp1 := [a]) (fp2 := [b]) (fun c hc => by rw [List.mem_singleton.mp hc]; exact ha) (fun c hc => by rw [List.mem_singleton.mp hc]; exact hb)
  have na : a ≠ N := Nat.ne_of_lt ha
  have nb : b ≠ N + 1 := Nat.ne_of_lt (Nat.lt_succ_of_lt hb)
  have cases5 : ∀ {c : Addr}, c ∈ [N + 4, N + 2, N + 3, N, N + 1] → c = N + 4 ∨ c = N + 2 ∨ c = N + 3 ∨ c = N ∨ c = N + 1 := fun {c} h => by simpa using h
  have off : ∀ {c : Addr}, c ∉ [N + 4, N + 2, N + 3, N, N + 1] → c ≠ N + 4 ∧ c ≠ N + 3 ∧ c ≠ N ∧ c ≠ N + 1 := fun {c} h => ⟨fun e => h (by simp [e]), fun e => h (by simp [e]), fun e => h (by simp [e]), fun e => h (by simp [e])⟩
  exact {
    mem := by simp
    obj := fun i h st c hc => by
      obtain ⟨⟨f0, f1, hz, _⟩, ⟨x, y, hO⟩, hI, t1, t2⟩ := st
      rcases cases5 hc with q | q | q | q | q
      · rw [q]; exact ⟨_, hz, fun v q => nomatch q⟩
      · rw [q]; exact ⟨_, hI, fun v q => nomatch q⟩
      · rw [q]; exact ⟨_, hO, fun v q => nomatch q⟩
      · rw [q]; exact G1.live i h t1
      · rw [q]; exact G2.live i h t2
    keep := fun i h h' st k => by
      obtain ⟨⟨f0, f1, hz, f⟩, ⟨x, y, hO⟩, hI, t1, t2⟩ := st
      exact ⟨⟨f0, f1, k _ (by simp) _ hz, f⟩, ⟨x, y, k _ (by simp) _ hO⟩, k _ (by simp) _ hI, G1.keep _ _ _ t1 fun o e => k _ (by simp) _ e, G2.keep _ _ _ t2 fun o e => k _ (by simp) _ e⟩
    item := by
      intro X hP hw hK hc i pins s σ H E I hf st hg
      obtain ⟨hz, hO, hI, t1, t2⟩ := st
      obtain ⟨xs, ys, x, y, qx, qy, ex, ey⟩ := hg
      obtain ⟨its, rv, p1, _⟩ := G1.inv X hP hw hK pins σ H s xs I qx
      obtain ⟨its2, rv2, p2, _⟩ := G2.inv X hP hw hK pins σ H s ys I qy
      obtain ⟨u, hu, ru⟩ := rv.get ex
      obtain ⟨u2, hu2, ru2⟩ := rv2.get ey
      have hA : X.A.in1.handled = none := I.ok.hd hc
      have D1 := G1.draws X.A.in1 its.toArray hA na
      have D2 := G2.draws X.A.in1 its2.toArray hA nb
      have e1 : its.toArray[i]? = some u := by simpa using hu
      have e2 : its2.toArray[i]? = some u2 := by simpa using hu2
      have l1 : i < its.toArray.size := (Array.getElem?_eq_some_iff.mp e1).1
      have l2 : i < its2.toArray.size := (Array.getElem?_eq_some_iff.mp e2).1
      obtain ⟨f0, f1, hZ, _⟩ := id hz
      have hT : s.TypeIs (.ref (N + 4)) "zip" := ⟨_, hZ, rfl⟩
      have zl : N + 4 < s.heap.objs.size := Heap.lt_size hZ
      subst hP hw hK
      unfold pyNext
      refine bd (wpAny_attempt (wpAny_callSpecial?_slot (name := Str.ofString "__next__") hT F.slot_zip_next (wpAny_call_entry F.slot_zip_next hT F.entry_zip_next
        (zip_goes S D1 D2 hI ⟨hz, hO, ⟨t1, p1⟩, ⟨t2, p2⟩⟩ l1 l2 fun x1 x2 h' tk y1 y2 all new sz left => wpAny_pure ?_) (F.args_zip_next_1 _))))
      have ex1 : x1 = u := by rw [e1] at y1; exact (Option.some.inj y1).symm
      have ex2 : x2 = u2 := by rw [e2] at y2; exact (Option.some.inj y2).symm
      subst ex1 ex2
      obtain ⟨hz', hO', ⟨t1', _⟩, ⟨t2', _⟩⟩ := all
      refine ⟨_, rfl, let_zip (s := { s with heap := h', toks := tk }) hz' fun h2 hz2 sb => ?_⟩
      have sb' : Heap.SameBut (N + 4) h' h2 := sb
      have new2 : h2.get? s.heap.objs.size = some { cls := .type "tuple", data := .seq #[x1, x2] } := sb'.extBut _ _ (Nat.ne_of_gt zl) new
      have ob : ObjOk X.prog X.w (upd H s.heap.objs.size (.tup [x, y])) h2 s.heap.objs.size (.tup [x, y]) :=
        ⟨by show 2 ≤ sizeLine; decide, [x1, x2], .cons ru (.cons ru2 .nil), ⟨_, new2, rfl, _, rfl⟩⟩
      have I1 : Inv X pins σ (upd H s.heap.objs.size (.tup [x, y])) { s with heap := h2, toks := tk } :=
        I.turnedNew (t' := tk) (ch := [N + 4, N + 2, N + 3, N, N + 1]) (fun c o hcn q => sb'.extBut c o (off hcn).1 (left c o (off hcn).1 (off hcn).2.1 (off hcn).2.2.1 (off hcn).2.2.2 q)) hf (Nat.le_refl _) ob
      refine ⟨.ref s.heap.objs.size, _, I1, rfl, ⟨_, x, y, rfl, I.hok.fresh (Nat.le_refl _), rfl, fun l hl => by rw [G1.inj X rfl rfl rfl pins σ H s l xs I hl qx]; exact ex, fun l hl => by rw [G2.inj X rfl rfl rfl pins σ H s l ys I hl qy]; exact ey⟩, ?_, fun c hcm => ?_⟩
      · obtain ⟨p, q, hO'⟩ := hO'
        exact ⟨hz2, ⟨p, q, sb'.extBut _ _ S.TOz hO'⟩, sb'.extBut _ _ S.TIz (left _ _ S.TIz S.TITO S.TIi1 S.TIi2 hI), G1.keep _ _ _ t1' fun o e => sb'.extBut _ o (fun q => S.zi1 q.symm) e, G2.keep _ _ _ t2' fun o e => sb'.extBut _ o (fun q => S.zi2 q.symm) e⟩
      · have lt : c < s.heap.objs.size := by
          obtain ⟨p, q, hO⟩ := hO
          rcases cases5 hcm with q | q | q | q | q
          · rw [q]; exact zl
          · rw [q]; exact Heap.lt_size hI
          · rw [q]; exact Heap.lt_size hO
          · rw [q]; obtain ⟨_, e, _⟩ := G1.live _ _ t1; exact Heap.lt_size e
          · rw [q]; obtain ⟨_, e, _⟩ := G2.live _ _ t2; exact Heap.lt_size e
        rw [upd_ne (Nat.ne_of_lt lt)]
        exact (hf c hcm).1
    done := by
      intro X hP hw hK hc i pins s σ H E I hf st hg
      obtain ⟨hz, hO, hI, t1, t2⟩ := st
      obtain ⟨xs, ys, qx, qy, k1, k2, k3⟩ := hg
      obtain ⟨its, rv, p1, _⟩ := G1.inv X hP hw hK pins σ H s xs I qx
      obtain ⟨its2, rv2, p2, _⟩ := G2.inv X hP hw hK pins σ H s ys I qy
      have r1 := rv.length
      have r2 := rv2.length
      have hA : X.A.in1.handled = none := I.ok.hd hc
      have D1 := G1.draws X.A.in1 its.toArray hA na
      have D2 := G2.draws X.A.in1 its2.toArray hA nb
      obtain ⟨f0, f1, hZ, _⟩ := id hz
      have hT : s.TypeIs (.ref (N + 4)) "zip" := ⟨_, hZ, rfl⟩
      subst hP hw hK
      unfold pyNext
      refine bd (wpAny_attempt (wpAny_callSpecial?_slot (name := Str.ofString "__next__") hT F.slot_zip_next (wpAny_call_entry F.slot_zip_next hT F.entry_zip_next
        (zip_ends S D1 D2 hI ⟨hz, hO, ⟨t1, p1⟩, ⟨t2, p2⟩⟩ (by simp; omega) (by simp; omega) (by simp; omega) fun h' tk e left ⟨oe, he1, he2⟩ => ?_) (F.args_zip_next_1 _))))
      refine bd (wpAny_isInstance (T := "StopIteration") (b := true) ⟨oe, he1, he2⟩ isSubtype_stop (wpAny_pure ⟨rfl, ?_⟩))
      exact I.turnedL (t' := tk) (ch := [N + 4, N + 2, N + 3, N, N + 1]) (fun c o hcn q => left c o (off hcn).1 (off hcn).2.1 (off hcn).2.2.1 (off hcn).2.2.2 q) hf
    self := fun A i s Q E st h => zip_self st.1 h }

def Sd (K : PySem.W.Frag) (a : Addr) (S : Hp → List V → Prop) : Prop := S = (fun H xs => SqL K H a xs) ∨ S = (fun H xs => SqT K H a xs)
theorem Sd.half {S : Hp → List V → Prop} (h : Sd K a S) (P : Program) (w : World) (it : Addr) : ∃ tn o body, Half P w K a it S tn o body := by
  rcases h with h | h
  · subst h; exact ⟨_, _, _, half_list⟩
  · subst h; exact ⟨_, _, _, half_tup⟩
def iZipG (K : PySem.W.Frag) (ta : TA) : TI := fun σ H R => ta σ H fun vs H1 => ∃ a b S1 S2, vs = [.ref a, .ref b] ∧ Sd K a S1 ∧ Sd K b S2 ∧ (∃ xs, S1 H1 xs) ∧ (∃ ys, S2 H1 ys) ∧ R (ItG S1 S2) H1
theorem pi_zipG {X : Cx} {tg e e2 : Expr} {ta : TA} {p pos : Pos} (hg : Gl X "zip") (hm : X.mg "zip" = none) (ha : PA X [e, e2] ta)
    (hs : starEach [e, e2] X.env = (false, eval e X.env) :: starEach [e2] X.env := by rfl) (hpl : (backTo pos (starEach [e2] X.env)).any (·.1) = false := by rfl) :
    PI X tg (.Call (.Name "zip" p) [e, e2] [] pos) (iZipG X.K ta) := by
  refine ⟨fun pins s σ H R I h => Call_ (ld_blt I hg hm PyProof.Rows.boot_zip (PyProof.Rows.callWith_type1 (thn (ha.run pos pins s σ H _ I h) fun us s1 ⟨vs, H1, I1, r1, q1⟩ => ?_) hs hpl))⟩
  obtain ⟨a, b, S1, S2, ex, d1, d2, ⟨xs, qx⟩, ⟨ys, qy⟩, q⟩ := q1
  subst ex
  cases r1 with
  | cons r rr =>
    cases rr with
    | cons r' rr =>
      cases rr
      cases r
      cases r'
      obtain ⟨tn1, o1, B1, G1⟩ := d1.half X.prog X.w s1.heap.objs.size
      obtain ⟨tn2, o2, B2, G2⟩ := d2.half X.prog X.w (s1.heap.objs.size + 1)
      obtain ⟨its, rv, p1, la⟩ := G1.inv X rfl rfl rfl pins σ H1 s1 xs I1 qx
      obtain ⟨its2, rv2, p2, lb⟩ := G2.inv X rfl rfl rfl pins σ H1 s1 ys I1 qy
      refine zip_begins2 (G1.begins its.toArray) (G2.begins its2.toArray) p1 p2 fun h' hz hI hO g1 g2 sz hk => ?_
      have hz' : ZOut h' (s1.heap.objs.size + 4) (s1.heap.objs.size + 2) (s1.heap.objs.size + 3) := ⟨_, _, hz, .inl rfl⟩
      refine zip_self (s := { s1 with heap := h' }) hz' ?_
      have I2 : Inv X pins σ H1 { s1 with heap := h' } := I1.kept (t' := s1.toks) hk
      refine ⟨s1.heap.objs.size + 4, _, _, _, H1, rfl, I2, turn_G G1 G2 la lb, ⟨hz', ⟨_, _, hO⟩, hI, G1.first _ g1, G2.first _ g2⟩, fun c hcm => ?_, q⟩
      have hle : s1.heap.objs.size ≤ c := by
        have e' : c = s1.heap.objs.size + 4 ∨ c = s1.heap.objs.size + 2 ∨ c = s1.heap.objs.size + 3 ∨ c = s1.heap.objs.size ∨ c = s1.heap.objs.size + 1 := by simpa using hcm
        rcases e' with q | q | q | q | q
        · rw [q]; exact Nat.le_add_right _ 4
        · rw [q]; exact Nat.le_add_right _ 2
        · rw [q]; exact Nat.le_add_right _ 3
        · rw [q]; exact Nat.le_refl _
        · rw [q]; exact Nat.le_add_right _ 1
      exact I1.fpOk hle (I1.hok.fresh hle)

/-! ### enumerate -/
def ItE (S : Hp → List V → Prop) : It :=
  ⟨fun i H => ∃ (xs : List V) (x : V), S H xs ∧ xs[i]? = some x, fun i H v H' => ∃ T x, v = .ref T ∧ H T = none ∧ H' = upd H T (.tup [.int (i : Nat), x]) ∧ ∀ xs, S H xs → xs[i]? = some x, fun i H => ∃ xs : List V, S H xs ∧ xs.length = i⟩
theorem turn_E {S : Hp → List V → Prop} {tn : Nat → Heap → Prop} {o : Obj} {B : Array Value → Heap → Prop} {elts : List Expr} {kk : Nat} {tpos : Pos} {N : Nat} (G : Half P w K a N S tn o B) (ha : a < N) :
    Turn P w K (.Tuple elts kk tpos) (ItE S) [N + 1, N] (N + 1) (fun i h => (∃ old, IsEnum h (N + 1) N ((i : Nat) : Int) old) ∧ tn i h) where
  mem := by simp
  obj := fun i h st b hb => by
    obtain ⟨⟨old, he⟩, t⟩ := st
    have e' : b = N + 1 ∨ b = N := by simpa using hb
    rcases e' with q | q
    · rw [q]; exact ⟨_, he, fun v q => nomatch q⟩
    · rw [q]; exact G.live _ _ t
  keep := fun i h h' ⟨⟨old, he⟩, t⟩ k => ⟨⟨old, k _ (by simp) _ he⟩, G.keep _ _ _ t fun o e => k _ (by simp) _ e⟩
  item := by
    intro X hP hw hK hc i pins s σ H E I hf st hg
    obtain ⟨⟨old, he⟩, t⟩ := st
    obtain ⟨xs, x, q, ex⟩ := hg
    obtain ⟨its, rv, p, _⟩ := G.inv X hP hw hK pins σ H s xs I q
    obtain ⟨u, hu, ru⟩ := rv.get ex
    have hA : X.A.in1.handled = none := I.ok.hd hc
    have nei : N + 1 ≠ N := Nat.succ_ne_self N
    have nea : N + 1 ≠ a := Nat.ne_of_gt (Nat.lt_succ_of_lt ha)
    have D1 := G.draws X.A.in1 its.toArray hA (Nat.ne_of_lt ha)
    have e1 : its.toArray[i]? = some u := by simpa using hu
    have l1 : i < its.toArray.size := (Array.getElem?_eq_some_iff.mp e1).1
    have el : N + 1 < s.heap.objs.size := Heap.lt_size he
    subst hP hw hK
    refine wpAny_pyNext_enum_itemD D1 he ⟨t, p⟩ l1 nei (by simp [nea]) fun y h' tk hy ho st' hT sz left => ⟨_, rfl, wpAny_letOwnedTupleGo_enum (s := { s with heap := h', toks := tk + 1 }) ho fun h2 he2 sb => ?_⟩
    have ey : y = u := by rw [e1] at hy; exact (Option.some.inj hy).symm
    subst ey
    have sb' : Heap.SameBut (N + 1) h' h2 := sb
    have new2 : h2.get? s.heap.objs.size = some { cls := .type "tuple", data := .seq #[.int i tk, y] } := sb'.extBut _ _ (Nat.ne_of_gt el) hT
    have ob : ObjOk X.prog X.w (upd H s.heap.objs.size (.tup [.int (i : Nat), x])) h2 s.heap.objs.size (.tup [.int (i : Nat), x]) :=
      ⟨by show 2 ≤ sizeLine; decide, [.int i tk, y], .cons ⟨_, rfl⟩ (.cons ru .nil), ⟨_, new2, rfl, _, rfl⟩⟩
    have I1 : Inv X pins σ (upd H s.heap.objs.size (.tup [.int (i : Nat), x])) { s with heap := h2, toks := tk + 1 } :=
      I.turnedNew (t' := tk + 1) (ch := [N + 1, N]) (fun b o hb q => sb'.extBut b o (fun z => hb (by simp [z])) (left b o (fun z => hb (by simp [z])) (fun z => hb (by simp [z])) q)) hf (Nat.le_refl _) ob
    refine ⟨.ref s.heap.objs.size, _, I1, rfl, ⟨_, x, rfl, I.hok.fresh (Nat.le_refl _), rfl, fun l hl => by rw [G.inj X rfl rfl rfl pins σ H s l xs I hl q]; exact ex⟩, ⟨⟨y, ?_⟩, G.keep _ _ _ st'.1 fun o e => sb'.extBut _ o nei.symm e⟩, fun b hb => ?_⟩
    · have e1 : ((i + 1 : Nat) : Int) = (i : Int) + 1 := by omega
      rw [e1]; exact he2
    · have lt : b < s.heap.objs.size := by
        have e' : b = N + 1 ∨ b = N := by simpa using hb
        rcases e' with q | q
        · rw [q]; exact el
        · rw [q]; exact Nat.lt_of_succ_lt el
      rw [upd_ne (Nat.ne_of_lt lt)]
      exact (hf b hb).1
  done := by
    intro X hP hw hK hc i pins s σ H E I hf st hg
    obtain ⟨⟨old, he⟩, t⟩ := st
    obtain ⟨xs, q, hl⟩ := hg
    obtain ⟨its, rv, p, _⟩ := G.inv X hP hw hK pins σ H s xs I q
    have r := rv.length
    have D1 := G.draws X.A.in1 its.toArray (I.ok.hd hc) (Nat.ne_of_lt ha)
    have hi : its.toArray.size = i := by simp; omega
    subst hP hw hK
    exact wpAny_pyNext_enum_endD D1 he (by rw [hi]; exact ⟨t, p⟩) fun h' hx => ⟨rfl, I.turnedL (t' := s.toks) (ch := [N + 1, N]) (fun b o hb q => hx b o (fun z => hb (by simp [z])) q) hf⟩
  self := fun A i s Q E st h => let ⟨⟨_, he⟩, _⟩ := st; wpAny_pyIter_enum he h

theorem enum_new {v : Value} {o : Obj} {B : Heap → Prop} (b : Begins v o B) :
    Meets (Builtin.«enumerate.__new__» ⟨[.type "enumerate", v], []⟩) (fun _ R s => B s.heap ∧
      R (.ok (.ret (.ref (s.heap.push o).objs.size))) { s with heap := (s.heap.push o).push { cls := .type "enumerate", data := .fields #[.none, .bool false, .ref s.heap.objs.size, rawInt 0, .none, .none] } }) :=
  .of_wp fun prog w A R s ⟨h1, h⟩ => by
    obtain ⟨hp, g, d, tk, os⟩ := s
    have q0 := sub_enumerate
    have go : ∀ {A' : Around} {E Q : Value → Shared → Prop}, Q (.ref hp.objs.size) ⟨hp.push o, g, d, tk, os⟩ → wpAny (model prog w) A' (pyIter v) Q E ⟨hp, g, d, tk, os⟩ :=
      fun k => b.iter prog w _ _ ⟨hp, g, d, tk, os⟩ _ h1 k
    wp_walk using go
    refine wpAny_stack_any fun st => wpAny_pure ?_
    split
    · rename_i c _ _ _ _ _
      cases c == Value.type "enumerate" <;> (wp_walk using go; exact ⟨_, rfl, h⟩)
    · wp_walk using go; exact ⟨_, rfl, h⟩
theorem enum_begins1 {A : Around} {E : Value → Shared → Prop} {s : Shared} {v : Value} {o : Obj} {B : Heap → Prop} {Q : Value → Shared → Prop} (b : Begins v o B) (h1 : B s.heap)
    (h : ∀ h', IsEnum h' (s.heap.objs.size + 1) s.heap.objs.size 0 .none → h'.get? s.heap.objs.size = some o → (∀ b o, s.heap.get? b = some o → h'.get? b = some o) → Q (.ref (s.heap.objs.size + 1)) { s with heap := h' }) :
    wpAny (model P w) A (call (.type "enumerate") [v]) Q E s := by
  refine callType_new F.called_enumerate (by decide) (F.typeCall_enumerate_1 _) (F.newCall_enumerate_1 _) (fun obj => F.args_object_init_2 obj _) F.entry_enumerate_new (enum_new b) ⟨h1, ?_⟩
  have z1 : (s.heap.push o).objs.size = s.heap.objs.size + 1 := Heap.size_push ..
  have e2 : IsEnum ((s.heap.push o).push { cls := .type "enumerate", data := .fields #[.none, .bool false, .ref s.heap.objs.size, rawInt 0, .none, .none] }) (s.heap.push o).objs.size s.heap.objs.size 0 .none := Heap.get?_push_size _ rfl
  rw [z1] at e2
  show _ ∧ _
  rw [z1]
  exact ⟨⟨_, e2, rfl⟩, h _ e2 (Heap.get?_push_of_some _ (Heap.get?_push_size _ b.free)) fun c o x => Heap.get?_push_of_some _ (Heap.get?_push_of_some _ x)⟩

def iEnumG (K : PySem.W.Frag) (ta : TA) : TI := fun σ H R => ta σ H fun vs H1 => ∃ a S, vs = [.ref a] ∧ Sd K a S ∧ (∃ xs, S H1 xs) ∧ R (ItE S) H1
theorem pi_enumG {X : Cx} {e : Expr} {ta : TA} {p pos tpos : Pos} {elts : List Expr} {kk : Nat} (hg : Gl X "enumerate") (hm : X.mg "enumerate" = none) (ha : PA X [e] ta) (hs : starEach [e] X.env = [(false, eval e X.env)] := by rfl) :
    PI X (.Tuple elts kk tpos) (.Call (.Name "enumerate" p) [e] [] pos) (iEnumG X.K ta) := by
  refine ⟨fun pins s σ H R I h => Call_ (ld_blt I hg hm boot_enumerate (PyProof.Rows.callWith_type1 (thn (ha.run pos pins s σ H _ I h) fun us s1 ⟨vs, H1, I1, r1, q1⟩ => ?_) hs rfl))⟩
  obtain ⟨a, S, ex, d1, ⟨xs, qx⟩, q⟩ := q1
  subst ex
  cases r1 with
  | cons r rr =>
    cases rr
    cases r
    obtain ⟨tn, o, B, G⟩ := d1.half X.prog X.w s1.heap.objs.size
    obtain ⟨its, rv, p1, la⟩ := G.inv X rfl rfl rfl pins σ H1 s1 xs I1 qx
    refine enum_begins1 (G.begins its.toArray) p1 fun h' he g1 hk => wpAny_pyIter_enum he ?_
    have I2 : Inv X pins σ H1 { s1 with heap := h' } := I1.kept (t' := s1.toks) hk
    refine ⟨s1.heap.objs.size + 1, _, _, _, H1, rfl, I2, turn_E G la, ⟨⟨.none, he⟩, G.first _ g1⟩, fun b hb => ?_, q⟩
    have hle : s1.heap.objs.size ≤ b := by
      have e' : b = s1.heap.objs.size + 1 ∨ b = s1.heap.objs.size := by simpa using hb
      rcases e' with q | q
      · rw [q]; exact Nat.le_add_right _ _
      · rw [q]; exact Nat.le_refl _
    exact I1.fpOk hle (I1.hok.fresh hle)
end Fx

set_option Elab.async false
set_option linter.all false
set_option maxRecDepth 100000
set_option maxHeartbeats 4000000
set_option autoImplicit false
/-! Fx, part O: list(zip(a, b)). -/
namespace Fx
open PySem PySem.Spec PyProof.Rows L2
open Sem (wp)

theorem zip_no_len : typeLookup (.type "zip") "__len__" = pure none := am_miss_of_fast (by decide +kernel)
theorem zip_no_hint : typeLookup (.type "zip") "__length_hint__" = pure none := am_miss_of_fast (by decide +kernel)
/-- where a zip over what stands at a and b is -/
def Zat (N : Nat) (tn1 tn2 : Nat → Heap → Prop) (i : Nat) (h : Heap) : Prop := ZOut h (N + 4) (N + 2) (N + 3) ∧ (∃ x y, IsTupOf2 h (N + 3) x y) ∧ IsTupOf2 h (N + 2) (.ref N) (.ref (N + 1)) ∧ tn1 i h ∧ tn2 i h
abbrev zc (N : Nat) : List Addr := [N + 4, N + 2, N + 3, N, N + 1]
section
variable {X : Cx} {B : Around} {pins : List (Addr × Obj)} {σ : L2.St} {H : Hp} {s : Shared} {a b : Addr} {N i : Nat} {S1 S2 : Hp → List V → Prop} {tn1 tn2 : Nat → Heap → Prop} {o1 o2 : Obj} {B1 B2 : Array Value → Heap → Prop} {xs ys : List V} {E : Value → Shared → Prop}
theorem sep_of (ha : a < N) (hb : b < N) : ZipSep2 (N + 4) (N + 2) (N + 3) N (N + 1) [N, a] [N + 1, b] := zip_sep2 (fp1 := [a]) (fp2 := [b]) (fun c hc => by rw [List.mem_singleton.mp hc]; exact ha) (fun c hc => by rw [List.mem_singleton.mp hc]; exact hb)
theorem zc_off {c : Addr} (h : c ∉ zc N) : c ≠ N + 4 ∧ c ≠ N + 3 ∧ c ≠ N ∧ c ≠ N + 1 := ⟨fun e => h (by simp [zc, e]), fun e => h (by simp [zc, e]), fun e => h (by simp [zc, e]), fun e => h (by simp [zc, e])⟩
theorem zc_cases {c : Addr} (h : c ∈ zc N) : c = N + 4 ∨ c = N + 2 ∨ c = N + 3 ∨ c = N ∨ c = N + 1 := by simpa using h
theorem zat_lt (G1 : Half X.prog X.w X.K a N S1 tn1 o1 B1) (G2 : Half X.prog X.w X.K b (N + 1) S2 tn2 o2 B2) {h : Heap} (st : Zat N tn1 tn2 i h) : ∀ c ∈ zc N, c < h.objs.size := fun c hc => by
  obtain ⟨⟨f0, f1, hZ, _⟩, ⟨p, q, hO⟩, hI, t1, t2⟩ := st
  rcases zc_cases hc with q | q | q | q | q
  · rw [q]; exact Heap.lt_size hZ
  · rw [q]; exact Heap.lt_size hI
  · rw [q]; exact Heap.lt_size hO
  · rw [q]; obtain ⟨_, e, _⟩ := G1.live _ _ t1; exact Heap.lt_size e
  · rw [q]; obtain ⟨_, e, _⟩ := G2.live _ _ t2; exact Heap.lt_size e
theorem zat_keep (G1 : Half X.prog X.w X.K a N S1 tn1 o1 B1) (G2 : Half X.prog X.w X.K b (N + 1) S2 tn2 o2 B2) {h h' : Heap} (st : Zat N tn1 tn2 i h) (k : ∀ c ∈ zc N, ∀ o, h.get? c = some o → h'.get? c = some o) : Zat N tn1 tn2 i h' := by
  obtain ⟨⟨f0, f1, hz, f⟩, ⟨x, y, hO⟩, hI, t1, t2⟩ := st
  exact ⟨⟨f0, f1, k _ (by simp) _ hz, f⟩, ⟨x, y, k _ (by simp) _ hO⟩, k _ (by simp) _ hI, G1.keep _ _ _ t1 fun o e => k _ (by simp) _ e, G2.keep _ _ _ t2 fun o e => k _ (by simp) _ e⟩
theorem zip_step (hB : B.in1.handled = none) (G1 : Half X.prog X.w X.K a N S1 tn1 o1 B1) (G2 : Half X.prog X.w X.K b (N + 1) S2 tn2 o2 B2) (ha : a < N) (hb : b < N) (I : Inv X pins σ H s) (hf : ∀ c ∈ zc N, FpOk X pins H c)
    (st : Zat N tn1 tn2 i s.heap) {x y : V} (qx : S1 H xs) (qy : S2 H ys) (ex : xs[i]? = some x) (ey : ys[i]? = some y) {Q : Option Value → Shared → Prop}
    (k : ∀ (T : Addr) (s1 : Shared), H T = none → T = s.heap.objs.size → Inv X pins σ (upd H T (.tup [x, y])) s1 → Zat N tn1 tn2 (i + 1) s1.heap → (∀ c ∈ zc N, FpOk X pins (upd H T (.tup [x, y])) c) → (∀ c o, c ∉ zc N → s.heap.get? c = some o → s1.heap.get? c = some o) → Q (some (.ref T)) s1) :
    wpAny (model X.prog X.w) B (pyNext (.ref (N + 4))) Q E s := by
  have lts := zat_lt G1 G2 st
  obtain ⟨hz, hO, hI, t1, t2⟩ := st
  obtain ⟨its, rv, p1, _⟩ := G1.inv X rfl rfl rfl pins σ H s xs I qx
  obtain ⟨its2, rv2, p2, _⟩ := G2.inv X rfl rfl rfl pins σ H s ys I qy
  obtain ⟨u, hu, ru⟩ := rv.get ex
  obtain ⟨u2, hu2, ru2⟩ := rv2.get ey
  have e1 : its.toArray[i]? = some u := by simpa using hu
  have e2 : its2.toArray[i]? = some u2 := by simpa using hu2
  obtain ⟨f0, f1, hZ, _⟩ := id hz
  have hT : s.TypeIs (.ref (N + 4)) "zip" := ⟨_, hZ, rfl⟩
  have S := sep_of (N := N) ha hb
  unfold pyNext
  refine bd (wpAny_attempt (wpAny_callSpecial?_slot (name := Str.ofString "__next__") hT F.slot_zip_next (wpAny_call_entry F.slot_zip_next hT F.entry_zip_next
    (zip_goes S (G1.draws _ its.toArray hB (Nat.ne_of_lt ha)) (G2.draws _ its2.toArray hB (Nat.ne_of_lt (Nat.lt_succ_of_lt hb))) hI ⟨hz, hO, ⟨t1, p1⟩, ⟨t2, p2⟩⟩ (Array.getElem?_eq_some_iff.mp e1).1 (Array.getElem?_eq_some_iff.mp e2).1 fun x1 x2 h' tk y1 y2 all new sz left => wpAny_pure ?_) (F.args_zip_next_1 _))))
  have ex1 : x1 = u := by rw [e1] at y1; exact (Option.some.inj y1).symm
  have ex2 : x2 = u2 := by rw [e2] at y2; exact (Option.some.inj y2).symm
  subst ex1 ex2
  obtain ⟨hz', hO', ⟨t1', _⟩, ⟨t2', _⟩⟩ := all
  have ob : ObjOk X.prog X.w (upd H s.heap.objs.size (.tup [x, y])) h' s.heap.objs.size (.tup [x, y]) :=
    ⟨by show 2 ≤ sizeLine; decide, [x1, x2], .cons ru (.cons ru2 .nil), ⟨_, new, rfl, _, rfl⟩⟩
  have I1 : Inv X pins σ (upd H s.heap.objs.size (.tup [x, y])) { s with heap := h', toks := tk } :=
    I.turnedNew (t' := tk) (ch := zc N) (fun c o hcn q => left c o (zc_off hcn).1 (zc_off hcn).2.1 (zc_off hcn).2.2.1 (zc_off hcn).2.2.2 q) hf (Nat.le_refl _) ob
  refine k _ _ (I.hok.fresh (Nat.le_refl _)) rfl I1 ⟨hz', hO', left _ _ S.TIz S.TITO S.TIi1 S.TIi2 hI, t1', t2'⟩ (fun c hc => ?_) fun c o hcn q => left c o (zc_off hcn).1 (zc_off hcn).2.1 (zc_off hcn).2.2.1 (zc_off hcn).2.2.2 q
  obtain ⟨r0, r⟩ := hf c hc
  exact ⟨by rw [upd_ne (Nat.ne_of_lt (lts c hc))]; exact r0, r⟩
theorem zip_stop (hB : B.in1.handled = none) (G1 : Half X.prog X.w X.K a N S1 tn1 o1 B1) (G2 : Half X.prog X.w X.K b (N + 1) S2 tn2 o2 B2) (ha : a < N) (hb : b < N) (I : Inv X pins σ H s) (hf : ∀ c ∈ zc N, FpOk X pins H c)
    (st : Zat N tn1 tn2 i s.heap) (qx : S1 H xs) (qy : S2 H ys) (l1 : i ≤ xs.length) (l2 : i ≤ ys.length) (l3 : xs.length = i ∨ ys.length = i) {Q : Option Value → Shared → Prop}
    (k : ∀ (s1 : Shared), Inv X pins σ H s1 → Q none s1) :
    wpAny (model X.prog X.w) B (pyNext (.ref (N + 4))) Q E s := by
  obtain ⟨hz, hO, hI, t1, t2⟩ := st
  obtain ⟨its, rv, p1, _⟩ := G1.inv X rfl rfl rfl pins σ H s xs I qx
  obtain ⟨its2, rv2, p2, _⟩ := G2.inv X rfl rfl rfl pins σ H s ys I qy
  have r1 := rv.length
  have r2 := rv2.length
  obtain ⟨f0, f1, hZ, _⟩ := id hz
  have hT : s.TypeIs (.ref (N + 4)) "zip" := ⟨_, hZ, rfl⟩
  unfold pyNext
  refine bd (wpAny_attempt (wpAny_callSpecial?_slot (name := Str.ofString "__next__") hT F.slot_zip_next (wpAny_call_entry F.slot_zip_next hT F.entry_zip_next
    (zip_ends (sep_of (N := N) ha hb) (G1.draws _ its.toArray hB (Nat.ne_of_lt ha)) (G2.draws _ its2.toArray hB (Nat.ne_of_lt (Nat.lt_succ_of_lt hb))) hI ⟨hz, hO, ⟨t1, p1⟩, ⟨t2, p2⟩⟩ (by simp; omega) (by simp; omega) (by simp; omega) fun h' tk e left ⟨oe, he1, he2⟩ => ?_) (F.args_zip_next_1 _))))
  refine bd (wpAny_isInstance (T := "StopIteration") (b := true) ⟨oe, he1, he2⟩ isSubtype_stop (wpAny_pure (k _ ?_)))
  exact I.turnedL (t' := tk) (ch := zc N) (fun c o hcn q => left c o (zc_off hcn).1 (zc_off hcn).2.1 (zc_off hcn).2.2.1 (zc_off hcn).2.2.2 q) hf

/-- the list S takes what the zip has left; G tells what stands behind i items -/
theorem zip_loop {A : Around} {R : Result → Shared → Prop} {S : Addr} {res : Value} (hA : A.in1.in1.handled = none) (G1 : Half X.prog X.w X.K a N S1 tn1 o1 B1) (G2 : Half X.prog X.w X.K b (N + 1) S2 tn2 o2 B2) (ha : a < N) (hb : b < N) (G : Nat → Hp → List V → Prop)
    (hG : ∀ i H vs, G i H vs → S1 H xs ∧ S2 H ys ∧ H S = some (.lst vs) ∧ vs.length < 1000000) (n : Nat) (hn : n = min xs.length ys.length)
    (go : ∀ i H vs T x y, G i H vs → H T = none → xs[i]? = some x → ys[i]? = some y → G (i + 1) (upd (upd H T (.tup [x, y])) S (.lst (vs ++ [.ref T]))) (vs ++ [.ref T]))
    (fin : ∀ H vs s', G n H vs → Inv X pins σ H s' → R (.ok (.ret res)) s') :
    ∀ (k i : Nat) (H : Hp) (vs : List V) (s : Shared), n - i = k → i ≤ n → Inv X pins σ H s → (∀ c ∈ zc N, FpOk X pins H c) → Zat N tn1 tn2 i s.heap → G i H vs →
      codeAny (model X.prog X.w) A (.builtin "list.extend.loop" ⟨[.ref S, .ref (N + 4), res], []⟩) R s := by
  intro k
  induction k with
  | zero =>
    intro i H vs s hk hi I hf st g
    have e : i = n := by omega
    subst e
    obtain ⟨qx, qy, _, _⟩ := hG _ _ _ g
    refine codeAny_builtin F.entry_extend_loop ?_
    rw [Around.under_plainId F.plain_extend_loop _]
    show wpAny _ A.in1 (pyNext (.ref (N + 4)) >>= _) _ _ s
    exact bd (zip_stop hA G1 G2 ha hb I hf st qx qy (by omega) (by omega) (by omega) fun s1 I1 => wpAny_pure (fin H vs s1 g I1))
  | succ k ih =>
    intro i H vs s hk hi I hf st g
    obtain ⟨qx, qy, hS, hl⟩ := hG _ _ _ g
    have l1 : i < xs.length := by omega
    have l2 : i < ys.length := by omega
    refine codeAny_builtin F.entry_extend_loop ?_
    rw [Around.under_plainId F.plain_extend_loop _]
    show wpAny _ A.in1 (pyNext (.ref (N + 4)) >>= _) _ _ s
    refine bd (zip_step hA G1 G2 ha hb I hf st qx qy (List.getElem?_eq_getElem l1) (List.getElem?_eq_getElem l2) fun T s1 hT eT I1 st1 hf1 k1 => ?_)
    have hS1 : upd H T (.tup [xs[i], ys[i]]) S = some (.lst vs) := by rw [upd_ne (ne_of_none hS hT)]; exact hS
    obtain ⟨hz, its, m, rv, hlen, hget⟩ := I1.lstM hS1
    have nS : S ∉ zc N := fun h => by
      have := (hf1 S h).1
      rw [hS1] at this; cases this
    show wpAny _ A.in1 (updateSeq S (·.push (Value.ref T)) >>= _) _ _ s1
    refine bd ?_
    have h6 : 1000000 < sizeLine := by decide
    have z1 : its.toArray.size ≤ sizeLine := by simp; omega
    have z2 : (its.toArray.push (Value.ref T)).size ≤ sizeLine + 1 := by rw [Array.size_push]; simp; omega
    have I2 : Inv X pins σ (upd (upd H T (.tup [xs[i], ys[i]])) S (.lst (vs ++ [.ref T]))) { s1 with heap := s1.heap.update S (Obj.mapSeq (·.push (Value.ref T))) } :=
      I1.lset (t' := s1.toks) (its' := its ++ [Value.ref T]) hS1 hget (by simp) (rv.append (.cons rfl .nil)) (by rw [List.length_append]; exact line_of' hl)
    refine wpAny_updateSeq hget rfl (wpAny_pure ⟨plainId_quiet F.plain_extend_loop _, ?_⟩) z1 z2
    refine ih (i + 1) _ _ _ (by omega) (by omega) I2 (fun c hc => ?_) (zat_keep G1 G2 st1 fun c hc o e => (Heap.get?_update_other _ _ (fun z : S = c => nS (z ▸ hc))).trans e) (go i H vs T _ _ g hT (List.getElem?_eq_getElem l1) (List.getElem?_eq_getElem l2))
    obtain ⟨r0, r⟩ := hf1 c hc
    exact ⟨by rw [upd_ne (fun z : c = S => nS (z ▸ hc))]; exact r0, r⟩
theorem upd_again {H : Hp} {a : Addr} {o o' : HO} : upd (upd H a o) a o' = upd H a o' := by
  funext c
  by_cases h : c = a
  · subst h; rw [upd_same, upd_same]
  · rw [upd_ne h, upd_ne h, upd_ne h]
theorem upd_self {H : Hp} {a : Addr} {o : HO} (e : H a = some o) : upd H a o = H := by
  funext c
  by_cases h : c = a
  · subst h; rw [upd_same, e]
  · rw [upd_ne h]
/-- list.extend of an empty list by a zip -/
theorem zip_extend {A : Around} {R : Result → Shared → Prop} {S : Addr} {res : Value} (hA : A.in1.in1.handled = none) (G1 : Half X.prog X.w X.K a N S1 tn1 o1 B1) (G2 : Half X.prog X.w X.K b (N + 1) S2 tn2 o2 B2) (ha : a < N) (hb : b < N) (G : Nat → Hp → List V → Prop)
    (hG : ∀ i H vs, G i H vs → S1 H xs ∧ S2 H ys ∧ H S = some (.lst vs) ∧ vs.length < 1000000) (n : Nat) (hn : n = min xs.length ys.length)
    (go : ∀ i H vs T x y, G i H vs → H T = none → xs[i]? = some x → ys[i]? = some y → G (i + 1) (upd (upd H T (.tup [x, y])) S (.lst (vs ++ [.ref T]))) (vs ++ [.ref T]))
    (fin : ∀ H vs s', G n H vs → Inv X pins σ H s' → R (.ok (.ret res)) s') (I : Inv X pins σ H s) (hf : ∀ c ∈ zc N, FpOk X pins H c) (st : Zat N tn1 tn2 0 s.heap) (g : G 0 H []) :
    wpAny (model X.prog X.w) A.in1 (Builtin.List.listExtendWith (.ref S) (.ref (N + 4)) res)
      (fun fin s' => match fin with | .done f => R (.ok f) s' | .again c' => c'.quiet = true ∧ codeAny (model X.prog X.w) A c' R s') (fun e s' => R (.error e) s') s := by
  obtain ⟨qx, qy, hS, _⟩ := hG _ _ _ g
  have nS : S ∉ zc N := fun h => by
    have := (hf S h).1
    rw [hS] at this; cases this
  have nz : S ≠ N + 4 := fun e => nS (by simp [zc, e])
  obtain ⟨f0, f1, hZ, _⟩ := id st.1
  have hT : s.TypeIs (.ref (N + 4)) "zip" := ⟨_, hZ, rfl⟩
  unfold Builtin.List.listExtendWith
  refine bd (wpAny_typeOf hT ?_)
  have c1 : Builtin.List.listSameRef (.ref S) (.ref (N + 4)) = false := by simp [Builtin.List.listSameRef, nz]
  have c2 : (Value.type "zip" == Value.type "list") = false := by decide
  have c3 : (Value.type "zip" == Value.type "tuple") = false := by decide
  simp only [c1, c2, c3, Bool.or_false, Bool.false_eq_true, if_false]
  refine bd (zip_self st.1 (bd (wpAny_holding ?_)))
  unfold Builtin.List.listLengthHint
  refine bd (wpAny_specialOf hT zip_no_len ?_)
  show wpAny _ A.in1 (specialOf (Value.ref (N + 4)) (Str.ofString "__length_hint__") >>= _) _ _ s
  refine bd (wpAny_specialOf hT zip_no_hint (wpAny_pure ?_))
  show wpAny _ A.in1 (rule "list.extend.makes-room" >>= fun _ => Builtin.List.listTouch (.ref S) >>= fun _ => again (.builtin "list.extend.loop" ⟨[.ref S, .ref (N + 4), res], []⟩)) _ _ s
  refine bd (wpAny_rule (bd ?_))
  show wpAny _ A.in1 (updateSeq S (fun q => q.push .none) >>= fun _ => updateSeq S (fun q => q.pop)) _ _ s
  obtain ⟨_, its, m, rv, hlen, hget⟩ := I.lstM hS
  have e0 : its = [] := by cases its with
    | nil => rfl
    | cons _ _ => simp at hlen
  subst e0
  have I1 : Inv X pins σ (upd H S (.lst [V.non])) { s with heap := s.heap.update S (Obj.mapSeq fun q => q.push .none) } := I.lset (t' := s.toks) (its' := [Value.none]) hS hget (by simp) (.cons rfl .nil) (by decide)
  obtain ⟨_, its1, m1, rv1, hlen1, hget1⟩ := I1.lstM upd_same
  have e1 : its1 = [Value.none] := by cases rv1 with
    | cons r t => cases t; cases r; rfl
  subst e1
  have I2 := I1.lset (t' := s.toks) (its' := []) (ys := []) (f := fun q => q.pop) upd_same hget1 (by simp) .nil (by decide)
  rw [upd_again, upd_self hS] at I2
  refine bd (wpAny_updateSeq hget rfl (wpAny_updateSeq hget1 rfl (wpAny_pure ⟨plainId_quiet F.plain_extend_loop _, ?_⟩) (by decide) (by decide)) (by decide) (by decide))
  refine zip_loop hA G1 G2 ha hb G hG n hn go fin n 0 H [] _ (by omega) (Nat.zero_le _) I2 hf (zat_keep G1 G2 st fun c hc o e => ?_) g
  have ne : S ≠ c := fun z => nS (z ▸ hc)
  exact (Heap.get?_update_other _ _ ne).trans ((Heap.get?_update_other _ _ ne).trans e)

/-- a zip has been made -/
def ZMade (X : Cx) (pins : List (Addr × Obj)) (σ : L2.St) (R : Addr → Addr → (Hp → List V → Prop) → (Hp → List V → Prop) → List V → List V → Hp → Prop) (v : Value) (s : Shared) : Prop :=
  ∃ (N : Nat) (a b : Addr) (S1 S2 : Hp → List V → Prop) (tn1 tn2 : Nat → Heap → Prop) (o1 o2 : Obj) (B1 B2 : Array Value → Heap → Prop) (xs ys : List V) (H1 : Hp), v = .ref (N + 4) ∧ Inv X pins σ H1 s ∧ Half X.prog X.w X.K a N S1 tn1 o1 B1 ∧ Half X.prog X.w X.K b (N + 1) S2 tn2 o2 B2 ∧
    a < N ∧ b < N ∧ Zat N tn1 tn2 0 s.heap ∧ (∀ c ∈ zc N, FpOk X pins H1 c) ∧ S1 H1 xs ∧ S2 H1 ys ∧ R a b S1 S2 xs ys H1
theorem zip_made {e e2 : Expr} {ta : TA} {p pos : Pos} {R : Addr → Addr → (Hp → List V → Prop) → (Hp → List V → Prop) → List V → List V → Hp → Prop} (hg : Gl X "zip") (hm : X.mg "zip" = none) (ha : PA X [e, e2] ta)
    (hs : starEach [e, e2] X.env = (false, eval e X.env) :: starEach [e2] X.env) (hpl : (backTo pos (starEach [e2] X.env)).any (·.1) = false) (I : Inv X pins σ H s)
    (h : ta σ H fun vs H1 => ∃ a b S1 S2 xs ys, vs = [.ref a, .ref b] ∧ Sd X.K a S1 ∧ Sd X.K b S2 ∧ S1 H1 xs ∧ S2 H1 ys ∧ R a b S1 S2 xs ys H1) :
    wpAny (model X.prog X.w) X.A (eval (.Call (.Name "zip" p) [e, e2] [] pos) X.env) (ZMade X pins σ R) X.xe s := by
  refine Call_ (ld_blt I hg hm PyProof.Rows.boot_zip (PyProof.Rows.callWith_type1 (thn (ha.run pos pins s σ H _ I h) fun us s1 ⟨vs, H1, I1, r1, q1⟩ => ?_) hs hpl))
  obtain ⟨a, b, S1, S2, xs, ys, ex, d1, d2, qx, qy, q⟩ := q1
  subst ex
  cases r1 with
  | cons r rr =>
    cases rr with
    | cons r' rr =>
      cases rr
      cases r
      cases r'
      obtain ⟨tn1, o1, B1, G1⟩ := d1.half X.prog X.w s1.heap.objs.size
      obtain ⟨tn2, o2, B2, G2⟩ := d2.half X.prog X.w (s1.heap.objs.size + 1)
      obtain ⟨its, rv, p1, la⟩ := G1.inv X rfl rfl rfl pins σ H1 s1 xs I1 qx
      obtain ⟨its2, rv2, p2, lb⟩ := G2.inv X rfl rfl rfl pins σ H1 s1 ys I1 qy
      refine zip_begins2 (G1.begins its.toArray) (G2.begins its2.toArray) p1 p2 fun h' hz hI hO g1 g2 sz hk => ?_
      have hz' : ZOut h' (s1.heap.objs.size + 4) (s1.heap.objs.size + 2) (s1.heap.objs.size + 3) := ⟨_, _, hz, .inl rfl⟩
      have I2 : Inv X pins σ H1 { s1 with heap := h' } := I1.kept (t' := s1.toks) hk
      refine ⟨s1.heap.objs.size, a, b, S1, S2, tn1, tn2, o1, o2, B1, B2, xs, ys, H1, rfl, I2, G1, G2, la, lb, ⟨hz', ⟨_, _, hO⟩, hI, G1.first _ g1, G2.first _ g2⟩, fun c hcm => ?_, qx, qy, q⟩
      have hle : s1.heap.objs.size ≤ c := by
        rcases zc_cases hcm with q | q | q | q | q
        · rw [q]; exact Nat.le_add_right _ 4
        · rw [q]; exact Nat.le_add_right _ 2
        · rw [q]; exact Nat.le_add_right _ 3
        · rw [q]; exact Nat.le_refl _
        · rw [q]; exact Nat.le_add_right _ 1
      exact I1.fpOk hle (I1.hok.fresh hle)
/-- what a list of pairs must keep while it is made -/
structure ZG (K : PySem.W.Frag) (S : Addr) (S1 S2 : Hp → List V → Prop) (xs ys : List V) (G : Nat → Hp → List V → Prop) (H1 : Hp) (Q : VK) : Prop where
  st : ∀ i H vs, G i H vs → S1 H xs ∧ S2 H ys ∧ H S = some (.lst vs) ∧ vs.length < 1000000
  go : ∀ i H vs T x y, G i H vs → H T = none → xs[i]? = some x → ys[i]? = some y → G (i + 1) (upd (upd H T (.tup [x, y])) S (.lst (vs ++ [.ref T]))) (vs ++ [.ref T])
  first : G 0 (upd H1 S (.lst [])) []
  fin : ∀ H vs, G (min xs.length ys.length) H vs → Q (.ref S) H
def tLstZip (K : PySem.W.Frag) (ta : TA) : TE := fun σ H Q => ta σ H fun vs H1 => ∃ a b S1 S2 xs ys, vs = [.ref a, .ref b] ∧ Sd K a S1 ∧ Sd K b S2 ∧ S1 H1 xs ∧ S2 H1 ys ∧ ∀ S, H1 S = none → ∃ G, ZG K S S1 S2 xs ys G H1 Q
theorem pe_listZip {e e2 : Expr} {ta : TA} {p q pos zpos : Pos} (hc : X.calm = true) (hg : Gl X "list") (hm : X.mg "list" = none) (hg2 : Gl X "zip") (hm2 : X.mg "zip" = none) (ha : PA X [e, e2] ta)
    (hs : starEach [e, e2] X.env = (false, eval e X.env) :: starEach [e2] X.env := by rfl) (hpl : (backTo zpos (starEach [e2] X.env)).any (·.1) = false := by rfl)
    (na : starEach [.Call (.Name "zip" q) [e, e2] [] zpos] X.env = (false, eval (.Call (.Name "zip" q) [e, e2] [] zpos) X.env) :: starEach [] X.env := by rfl) :
    PE X (.Call (.Name "list" p) [.Call (.Name "zip" q) [e, e2] [] zpos] [] pos) (tLstZip X.K ta) := by
  refine ⟨fun pins s σ H Q I h => ?_⟩
  refine Call_ (ld_blt I hg hm boot_list (PyProof.Rows.callWith_type1 (args_cons (thn (zip_made (R := fun a b S1 S2 xs ys H1 => ∀ S, H1 S = none → ∃ G, ZG X.K S S1 S2 xs ys G H1 Q) hg2 hm2 ha hs hpl I h) fun x s1 zm => args_nil ?_) na) na))
  obtain ⟨N, a, b, S1, S2, tn1, tn2, o1, o2, B1, B2, xs, ys, H1, ex, I1, G1, G2, la, lb, st, hf, qx, qy, q⟩ := zm
  subst ex
  obtain ⟨G, Z⟩ := q s1.heap.objs.size (I1.hok.fresh (Nat.le_refl _))
  have hh := I1.ok.hd hc
  refine callType_codes (Q₁ := fun obj s₁ => obj = .ref s1.heap.objs.size ∧ s₁ = { s1 with heap := s1.heap.push { cls := .type "list", data := .seq #[] } }) F.called_list (F.typeCall_list_1 _) F.entry_list_init (code_list_new _ ⟨rfl, rfl⟩) fun obj s₁ h₁ => ?_
  obtain ⟨rfl, rfl⟩ := h₁
  have I2 : Inv X pins σ (upd H1 s1.heap.objs.size (.lst [])) { s1 with heap := s1.heap.push { cls := .type "list", data := .seq #[] } } := I1.lnew (its := []) (t' := s1.toks) .nil (by decide)
  have lt := zat_lt G1 G2 st
  have hf2 : ∀ c ∈ zc N, FpOk X pins (upd H1 s1.heap.objs.size (.lst [])) c := fun c hcm => by
    obtain ⟨r0, r⟩ := hf c hcm
    exact ⟨by rw [upd_ne (Nat.ne_of_lt (lt c hcm))]; exact r0, r⟩
  have st2 : Zat N tn1 tn2 0 (s1.heap.push { cls := .type "list", data := .seq #[] }) := zat_keep G1 G2 st fun c _ o e => Heap.get?_push_of_some _ e
  have hget : (s1.heap.push { cls := .type "list", data := .seq #[] }).get? s1.heap.objs.size = some { cls := .type "list", data := .seq #[] } := Heap.get?_push_size _ rfl
  refine ⟨⟨_, hget, rfl⟩, F.args_list_init_2 _ _, ?_⟩
  show wpAny _ _ (Builtin.List.listItems (.ref s1.heap.objs.size) >>= fun old => Builtin.List.listUpdate (.ref s1.heap.objs.size) (fun _ => #[]) >>= fun _ => letGo old.toList.reverse >>= fun _ => Builtin.List.listExtendWith (.ref s1.heap.objs.size) (.ref (N + 4)) .none) _ _ _
  refine bd ?_
  unfold Builtin.List.listItems
  refine bd (wpAny_seqItems hget rfl (wpAny_pure (bd ?_)))
  show wpAny _ _ (updateSeq s1.heap.objs.size (fun _ => #[])) _ _ _
  have I3 := I2.lset (t' := s1.toks) (its := []) (its' := []) (ys := []) (f := fun _ => #[]) upd_same hget rfl .nil (by decide)
  rw [upd_again] at I3
  refine wpAny_updateSeq hget rfl (bd (wpAny_letGo ?_)) (by decide) (by decide)
  refine zip_extend (A := X.A.in1) hh G1 G2 la lb G Z.st _ rfl Z.go (fun H' vs s' g I' => ?_) I3 hf2 (zat_keep G1 G2 st2 fun c hcm o e => ?_) Z.first
  · exact ⟨rfl, .ref s1.heap.objs.size, H', I', rfl, Z.fin _ _ g⟩
  · exact (Heap.get?_update_other _ _ (fun z : s1.heap.objs.size = c => absurd (lt c hcm) (by rw [← z]; exact Nat.lt_irrefl _))).trans e
end
end Fx

set_option Elab.async false
set_option linter.all false
set_option maxRecDepth 100000
set_option maxHeartbeats 4000000
set_option autoImplicit false
/-! Fx, part P: zip, enumerate, list(zip(..)), dict displays, three names at once. -/
namespace Fx
open PySem PySem.Spec PyProof.Rows L2

/-! ### two sides -/
/-- the items behind a value, and what must stand for them to stay -/
def side (st : Store) : D → Option (List D × (Store → Prop))
  | .tup xs => some (xs, Sq.any)
  | .lz xs => some (xs, Sq.any)
  | .ref n => match st[n]? with
    | some (.lst xs) => some (xs, Sq.at n xs)
    | _ => none
  | _ => none
structure SideOk (M : Md) (H0 : Hp) (φ0 : List Addr) (xs : List D) (ok : Store → Prop) (S : Hp → List V → Prop) : Prop where
  at_ : ∀ H φ st, Ext H0 φ0 H φ → RS M.P M.w M.K H φ st → ok st → ∃ vs, S H vs ∧ RDs M.K H φ xs vs
theorem side_ok {M : Md} {H0 : Hp} {φ0 : List Addr} {st : Store} {d : D} {v : V} {xs : List D} {ok : Store → Prop} (s : RS M.P M.w M.K H0 φ0 st) (r : RD M.K H0 φ0 d v) (e : side st d = some (xs, ok)) :
    ∃ a S vs, v = .ref a ∧ Sd M.K a S ∧ S H0 vs ∧ RDs M.K H0 φ0 xs vs ∧ SideOk M H0 φ0 xs ok S ∧ ok st := by
  unfold side at e
  split at e
  · cases e
    cases r with
    | tup h t => exact ⟨_, _, _, rfl, .inr rfl, SqT.of h, t, ⟨fun H φ st e _ _ => ⟨_, SqT.of (e.tup _ _ h), t.mono e.mono⟩⟩, trivial⟩
  · cases e
    cases r with
    | lz h t => exact ⟨_, _, _, rfl, .inl rfl, h.sq, t, ⟨fun H φ st e _ _ => ⟨_, (e.fzL h).sq, t.mono e.mono⟩⟩, trivial⟩
  · split at e
    · rename_i n xs' e1
      cases e
      cases r with
      | ref h =>
        obtain ⟨o, e2, ro⟩ := s.os.get h
        rw [e1] at e2; cases e2
        cases ro with
        | lst q t => exact ⟨_, _, _, rfl, .inl rfl, SqL.of q, t, ⟨fun H φ st e s ok => by
            obtain ⟨o, e3, ro⟩ := s.os.get (e.get h)
            unfold Sq.at at ok
            rw [e3] at ok; cases ok
            cases ro with
            | lst q t => exact ⟨_, SqL.of q, t⟩⟩, e1⟩
    · cases e
  · cases e
theorem Sd.inj {X : Cx} {pins : List (Addr × Obj)} {σ : L2.St} {H : Hp} {s : Shared} {a : Addr} {S : Hp → List V → Prop} {xs ys : List V} (d : Sd X.K a S) (I : Inv X pins σ H s) (h : S H xs) (h' : S H ys) : xs = ys := by
  rcases d with e | e
  · subst e; exact I.list_inj h h'
  · subst e; exact I.tuple_inj h h'

theorem Sd.keep {K : PySem.W.Frag} {H H' : Hp} {a : Addr} {S : Hp → List V → Prop} {xs : List V} (d : Sd K a S) (h : S H xs) (k : ∀ n o, H n = some o → H' n = some o) : S H' xs := by
  rcases d with e | e
  · subst e
    rcases h with (h | ⟨o, h⟩) | h
    · exact .inl (.inl (k _ _ h))
    · exact .inl (.inr ⟨o, k _ _ h⟩)
    · exact .inr h
  · subst e
    rcases h with (h | ⟨o, h⟩) | h
    · exact .inl (.inl (k _ _ h))
    · exact .inl (.inr ⟨o, k _ _ h⟩)
    · exact .inr h
def pairD (x y : D) : D := .tup [x, y]
def fZip (g : FA) : FI := fun env st => (g env st).bind fun ds st1 => match ds with
  | [d1, d2] => match side st1 d1, side st1 d2 with
    | some p, some q => .ok ⟨List.zipWith pairD p.1 q.1, fun s => p.2 s ∧ q.2 s⟩ st1
    | _, _ => .stuck
  | _ => .stuck
def enumD : Nat → List D → List D
  | _, [] => []
  | i, d :: ds => pairD (.int (i : Nat)) d :: enumD (i + 1) ds
theorem enumD_len : ∀ (ds : List D) (i : Nat), (enumD i ds).length = ds.length
  | [], _ => rfl
  | _ :: ds, i => by simp [enumD, enumD_len ds]
theorem enumD_get : ∀ (ds : List D) (i j : Nat), (enumD i ds)[j]? = (ds[j]?).map (pairD (.int ((i + j : Nat))))
  | [], _, _ => by simp [enumD]
  | d :: ds, i, 0 => by simp [enumD]
  | d :: ds, i, j + 1 => by
    have := enumD_get ds (i + 1) j
    simp only [enumD, List.getElem?_cons_succ, this]
    rw [show i + 1 + j = i + (j + 1) by omega]
def fEnum (g : FA) : FI := fun env st => (g env st).bind fun ds st1 => match ds with
  | [d] => match side st1 d with
    | some p => .ok ⟨enumD 0 p.1, p.2⟩ st1
    | _ => .stuck
  | _ => .stuck
section
variable {X : Cx} {W : WX} {tg e e2 : Expr} {g : FA} {p pos tpos q zpos : Pos} {elts : List Expr} {kk : Nat}
theorem zip_get {xs ys : List D} {i : Nat} {x y : D} (h : xs[i]? = some x) (h' : ys[i]? = some y) : (List.zipWith pairD xs ys)[i]? = some (pairD x y) := by rw [List.getElem?_zipWith, h, h']
theorem rd_pair {K : PySem.W.Frag} {H : Hp} {φ : List Addr} {T : Addr} {x y : D} {u v : V} (h : H T = some (.tup [u, v])) (r : RD K H φ x u) (r' : RD K H φ y v) : RD K H φ (pairD x y) (.ref T) := .tup h (.cons r (.cons r' .nil))
theorem src_zip {M : Md} {H0 : Hp} {φ0 : List Addr} {S1 S2 : Hp → List V → Prop} {xs ys : List D} {ok1 ok2 : Store → Prop} (h1 : SideOk M H0 φ0 xs ok1 S1) (h2 : SideOk M H0 φ0 ys ok2 S2) :
    Src M H0 φ0 ⟨List.zipWith pairD xs ys, fun s => ok1 s ∧ ok2 s⟩ (ItG S1 S2) where
  goes := fun i H φ st hi e s ok => by
    simp only [List.length_zipWith] at hi
    obtain ⟨vs, q1, t1⟩ := h1.at_ H φ st e s ok.1
    obtain ⟨ws, q2, t2⟩ := h2.at_ H φ st e s ok.2
    have a1 := t1.length
    have a2 := t2.length
    exact ⟨vs, ws, vs[i], ws[i], q1, q2, List.getElem?_eq_getElem (by omega), List.getElem?_eq_getElem (by omega)⟩
  stops := fun H φ st e s ok => by
    simp only [List.length_zipWith]
    obtain ⟨vs, q1, t1⟩ := h1.at_ H φ st e s ok.1
    obtain ⟨ws, q2, t2⟩ := h2.at_ H φ st e s ok.2
    have a1 := t1.length
    have a2 := t2.length
    exact ⟨vs, ws, q1, q2, by omega, by omega, by omega⟩
  yields := fun i H φ st x H' hi e s ok y => by
    obtain ⟨T, u, v, rfl, hT, rfl, f1, f2⟩ := y
    obtain ⟨vs, q1, t1⟩ := h1.at_ H φ st e s ok.1
    obtain ⟨ws, q2, t2⟩ := h2.at_ H φ st e s ok.2
    obtain ⟨d1, e1, r1⟩ := t1.get' (f1 vs q1)
    obtain ⟨d2, e2, r2⟩ := t2.get' (f2 ws q2)
    exact ⟨Ext.new hT, s.new hT, pairD d1 d2, zip_get e1 e2, rd_pair upd_same (r1.mono (Ext.new hT).mono) (r2.mono (Ext.new hT).mono)⟩
theorem src_enum {M : Md} {H0 : Hp} {φ0 : List Addr} {S : Hp → List V → Prop} {xs : List D} {ok : Store → Prop} (h1 : SideOk M H0 φ0 xs ok S) : Src M H0 φ0 ⟨enumD 0 xs, ok⟩ (ItE S) where
  goes := fun i H φ st hi e s k => by
    rw [enumD_len] at hi
    obtain ⟨vs, q1, t1⟩ := h1.at_ H φ st e s k
    have a1 := t1.length
    exact ⟨vs, vs[i], q1, List.getElem?_eq_getElem (by omega)⟩
  stops := fun H φ st e s k => by
    obtain ⟨vs, q1, t1⟩ := h1.at_ H φ st e s k
    exact ⟨vs, q1, by rw [enumD_len]; exact t1.length.symm⟩
  yields := fun i H φ st x H' hi e s k y => by
    obtain ⟨T, u, rfl, hT, rfl, f1⟩ := y
    obtain ⟨vs, q1, t1⟩ := h1.at_ H φ st e s k
    obtain ⟨d1, e1, r1⟩ := t1.get' (f1 vs q1)
    exact ⟨Ext.new hT, s.new hT, pairD (.int (i : Nat)) d1, by rw [enumD_get, e1]; simp, rd_pair upd_same (.int _) (r1.mono (Ext.new hT).mono)⟩
theorem si_zip (hg : Gl X "zip") (hm : X.mg "zip" = none) (ha : SA X W [e, e2] g)
    (hs : starEach [e, e2] X.env = (false, eval e X.env) :: starEach [e2] X.env := by rfl) (hpl : (backTo pos (starEach [e2] X.env)).any (·.1) = false := by rfl) :
    SI X W tg (.Call (.Name "zip" p) [e, e2] [] pos) (fZip g) := by
  refine pi_imp (pi_zipG hg hm ha hs hpl) fun σ H R ⟨env, st, φ, a, q⟩ => ⟨env, st, φ, a, (Post.bind q).mono fun ds H1 φ1 st1 e1 s1 q1 vs rv => ?_⟩
  split at q1
  · split at q1
    · rename_i d1 d2 pp qq k1 k2
      cases rv with
      | cons r1 rr =>
        cases rr with
        | cons r2 rr =>
          cases rr
          obtain ⟨xs, ok1⟩ := pp
          obtain ⟨ys, ok2⟩ := qq
          obtain ⟨a, S1, us, rfl, d1, w1, _, o1, _⟩ := side_ok (M := X.md) s1 r1 k1
          obtain ⟨b, S2, ws, rfl, d2, w2, _, o2, _⟩ := side_ok (M := X.md) s1 r2 k2
          exact ⟨a, b, S1, S2, rfl, d1, d2, ⟨us, w1⟩, ⟨ws, w2⟩, q1 H1 φ1 Ext.refl s1 _ (src_zip o1 o2)⟩
    · exact q1.elim
  · exact q1.elim
theorem si_enum (hg : Gl X "enumerate") (hm : X.mg "enumerate" = none) (ha : SA X W [e] g) (hs : starEach [e] X.env = [(false, eval e X.env)] := by rfl) :
    SI X W (.Tuple elts kk tpos) (.Call (.Name "enumerate" p) [e] [] pos) (fEnum g) := by
  refine pi_imp (pi_enumG hg hm ha hs) fun σ H R ⟨env, st, φ, a, q⟩ => ⟨env, st, φ, a, (Post.bind q).mono fun ds H1 φ1 st1 e1 s1 q1 vs rv => ?_⟩
  split at q1
  · split at q1
    · rename_i d pp k1
      cases rv with
      | cons r1 rr =>
        cases rr
        obtain ⟨xs, ok1⟩ := pp
        obtain ⟨a, S1, us, rfl, d1, w1, _, o1, _⟩ := side_ok (M := X.md) s1 r1 k1
        exact ⟨a, S1, rfl, d1, ⟨us, w1⟩, q1 H1 φ1 Ext.refl s1 _ (src_enum o1)⟩
    · exact q1.elim
  · exact q1.elim

/-! ### list(zip(a, b)) -/
def fListZip (g : FA) : FE := fun env st => (fZip g env st).bind fun q st1 => if q.xs.length < 1000000 then .ok (.o (.lst q.xs)) st1 else .stuck
theorem se_listZip (hc : X.calm = true) (hg : Gl X "list") (hm : X.mg "list" = none) (hg2 : Gl X "zip") (hm2 : X.mg "zip" = none) (ha : SA X W [e, e2] g)
    (hs : starEach [e, e2] X.env = (false, eval e X.env) :: starEach [e2] X.env := by rfl) (hpl : (backTo zpos (starEach [e2] X.env)).any (·.1) = false := by rfl)
    (na : starEach [.Call (.Name "zip" q) [e, e2] [] zpos] X.env = (false, eval (.Call (.Name "zip" q) [e, e2] [] zpos) X.env) :: starEach [] X.env := by rfl) :
    SE X W (.Call (.Name "list" p) [.Call (.Name "zip" q) [e, e2] [] zpos] [] pos) (fListZip g) := by
  refine pe_imp (pe_listZip hc hg hm hg2 hm2 ha hs hpl na) fun σ H Q ⟨env, st, φ, a, q⟩ => ?_
  have q' : PostE X.md W H φ σ ((g env st).bind fun ds st1 => ((match ds with
      | [d1, d2] => match side st1 d1, side st1 d2 with
        | some p, some q => .ok ⟨List.zipWith pairD p.1 q.1, fun s => p.2 s ∧ q.2 s⟩ st1
        | _, _ => .stuck
      | _ => .stuck : Out Sq).bind fun q st1 => if q.xs.length < 1000000 then .ok (.o (.lst q.xs)) st1 else .stuck)) Q := by
    unfold fListZip fZip at q
    cases hgo : g env st with
    | ok ds st1 => rw [hgo] at q; exact q
    | exc x st1 => rw [hgo] at q; exact q
    | stuck => rw [hgo] at q; exact q
  refine ⟨env, st, φ, a, (PostE.bind q').mono fun ds H1 φ1 st1 e1 s1 q1 vs rv => ?_⟩
  split at q1
  · split at q1
    · rename_i d1 d2 pp qq k1 k2
      cases rv with
      | cons r1 rr =>
        cases rr with
        | cons r2 rr =>
          cases rr
          obtain ⟨xs, ok1⟩ := pp
          obtain ⟨ys, ok2⟩ := qq
          obtain ⟨a, S1, us, rfl, d1, w1, t1, o1, c1⟩ := side_ok (M := X.md) s1 r1 k1
          obtain ⟨b, S2, ws, rfl, d2, w2, t2, o2, c2⟩ := side_ok (M := X.md) s1 r2 k2
          simp only [Out.bind] at q1
          split at q1
          · rename_i hlen
            simp only [List.length_zipWith] at hlen
            have a1 := t1.length
            have a2 := t2.length
            refine ⟨a, b, S1, S2, us, ws, rfl, d1, d2, w1, w2, fun S hS => ⟨fun i H2 vs2 => (∀ n o, H1 n = some o → H2 n = some o) ∧ Ext H1 φ1 H2 φ1 ∧ RS X.md.P X.md.w X.md.K H2 φ1 st1 ∧ H2 S = some (.lst vs2) ∧ vs2.length = i ∧ RDs X.K H2 φ1 ((List.zipWith pairD xs ys).take i) vs2 ∧ i ≤ min us.length ws.length, ?_⟩⟩
            have nS : S ∉ φ1 := s1.notin hS
            constructor
            · rintro i H2 vs2 ⟨kp, e2, s2, h2, hl, rd, hi⟩
              exact ⟨d1.keep w1 kp, d2.keep w2 kp, h2, by omega⟩
            · rintro i H2 vs2 T x y ⟨kp, e2, s2, h2, hl, rd, hi⟩ hT hx hy
              have neT : S ≠ T := ne_of_none h2 hT
              have l1 : i < us.length := (List.getElem?_eq_some_iff.mp hx).1
              have l2 : i < ws.length := (List.getElem?_eq_some_iff.mp hy).1
              have e3 : Ext H2 φ1 (upd H2 T (.tup [x, y])) φ1 := Ext.new hT
              have h3 : upd H2 T (.tup [x, y]) S = some (.lst vs2) := by rw [upd_ne neT]; exact h2
              have mu : Mono X.K (upd H2 T (.tup [x, y])) φ1 (upd (upd H2 T (.tup [x, y])) S (.lst (vs2 ++ [.ref T]))) φ1 := mono_upd h3
              obtain ⟨d, ed, rx⟩ := t1.get' hx
              obtain ⟨d', ed', ry⟩ := t2.get' hy
              have m13 : Mono X.K H1 φ1 (upd H2 T (.tup [x, y])) φ1 := (e2.trans e3).mono
              refine ⟨fun n o h => ?_, (e2.trans e3).updNew hS, rs_upd (s2.new hT) h3 nS, upd_same, by rw [List.length_append]; simpa using hl, ?_, by omega⟩
              · have hn : n ≠ S := ne_of_none h hS
                have hn2 : n ≠ T := ne_of_none (kp n o h) hT
                rw [upd_ne hn, upd_ne hn2]
                exact kp n o h
              · have et : (List.zipWith pairD xs ys).take (i + 1) = (List.zipWith pairD xs ys).take i ++ [pairD d d'] := by
                  rw [List.take_add_one, zip_get ed ed']; rfl
                rw [et]
                exact ((rd.mono e3.mono).mono mu).append (.cons ((rd_pair upd_same (rx.mono m13) (ry.mono m13)).mono mu) .nil)
            · refine ⟨fun n o h => ?_, Ext.new hS, s1.new hS, upd_same, rfl, ?_, Nat.zero_le _⟩
              · rw [upd_ne (ne_of_none h hS)]; exact h
              · rw [List.take_zero]; exact .nil
            · rintro H2 vs2 ⟨kp, e2, s2, h2, hl, rd, hi⟩
              rw [List.take_of_length_le (by simp; omega)] at rd
              exact q1 H2 φ1 e2 s2 _ ⟨S, rfl, .lst h2 rd, nS, hS⟩
          · exact q1.elim
    · exact q1.elim
  · exact q1.elim
end
end Fx

set_option Elab.async false
set_option linter.all false
set_option maxRecDepth 100000
set_option maxHeartbeats 4000000
set_option autoImplicit false
/-! Fx, part Q: dict displays with entries, three names at once, short names for the printed proofs. -/
namespace Fx
open PySem PySem.Spec PyProof.Rows L2

def fFlat : List (FE × FE) → FA
  | [] => fNil
  | p :: r => fCons p.1 (fCons p.2 (fFlat r))
def pairUp : List D → Option (List (Key × D))
  | [] => some []
  | k :: v :: r => match k.key, pairUp r with
    | some k, some t => some ((k, v) :: t)
    | _, _ => none
  | _ => none
def mergeD (kvs : List (Key × D)) : List (Key × D) := kvs.foldl (fun acc kv => putD acc kv.1 kv.2) []
def fDisp (l : List (FE × FE)) : FE := fun env st => (fFlat l env st).bind fun ds st1 => match pairUp ds with
  | some kvs => if kvs.length ≤ 15 then .ok (.o (.dK (mergeD kvs))) st1 else .stuck
  | none => .stuck
section
variable {X : Cx} {W : WX} {K : PySem.W.Frag} {H : Hp} {φ : List Addr}
def flatV : List (V × V) → List V
  | [] => []
  | p :: r => p.1 :: p.2 :: flatV r
theorem tPairs_of {σ : L2.St} : ∀ {l : List (FE × FE)} {H : Hp} {R : List (V × V) → Hp → Prop}, tA X.md W (fFlat l) σ H (fun vs H2 => ∀ ps, vs = flatV ps → R ps H2) → tPairs (l.map fun p => (tE X.md W p.1, tE X.md W p.2)) σ H R
  | [], H, R, h => by
    obtain ⟨env, st, φ, a, q⟩ := h
    exact q H φ Ext.refl a.rs [] .nil [] rfl
  | p :: r, H, R, h => by
    obtain ⟨env, st, φ, a, q⟩ := h
    refine ⟨env, st, φ, a, (Post.bind0 q).mono fun r1 H1 φ1 st1 e1 s1 q1 v1 rv1 => ?_⟩
    obtain ⟨φ2, s2, r2, e2, m2⟩ := alloc_ok s1 rv1 e1
    have q2 : PostA X.md W H1 φ2 σ ((fCons p.2 (fFlat r)) env (alloc r1 st1).2) fun vs H3 => ∀ ps, v1 :: vs = flatV ps → R ps H3 :=
      (PostA.bind (Post.rebase q1 e2)).mono fun ds H3 φ3 st3 e3 s3 q3 vs rv => q3 H3 φ3 Ext.refl s3 (v1 :: vs) (.cons (r2.mono e3.mono) rv)
    refine ⟨env, _, φ2, ⟨a.re.mono e2.mono, s2⟩, (Post.bind0 q2).mono fun r3 H3 φ3 st3 e3 s3 q3 v3 rv3 => ?_⟩
    obtain ⟨φ4, s4, r4, e4, m4⟩ := alloc_ok s3 rv3 e3
    have q4 : PostA X.md W H3 φ4 σ (fFlat r env (alloc r3 st3).2) fun vs H5 => ∀ ps, v1 :: v3 :: vs = flatV ps → R ps H5 :=
      (PostA.bind (Post.rebase q3 e4)).mono fun ds H5 φ5 st5 e5 s5 q5 vs rv => q5 H5 φ5 Ext.refl s5 (v3 :: vs) (.cons (r4.mono e5.mono) rv)
    refine tPairs_of ⟨env, _, φ4, ⟨(a.re.mono e2.mono).mono e4.mono, s4⟩, q4.mono fun ds H5 φ5 st5 _ _ q5 vs rv ps e => q5 vs rv ((v1, v3) :: ps) (by rw [e]; rfl)⟩
theorem pairUp_ok : ∀ {ds : List D} {ps : List (V × V)} {kvs : List (Key × D)}, RDs K H φ ds (flatV ps) → pairUp ds = some kvs → ∃ kws : List (Key × V), ps = kws.map (fun kv => (kV kv.1, kv.2)) ∧ RKs K H φ kvs kws ∧ kws.length = kvs.length
  | [], [], kvs, _, e => by cases e; exact ⟨[], rfl, .nil, rfl⟩
  | [], p :: ps, kvs, r, _ => by cases r
  | d :: ds, [], kvs, r, _ => by cases r
  | [d], p :: ps, kvs, r, e => by cases e
  | d :: d' :: ds, p :: ps, kvs, r, e => by
    unfold pairUp at e
    cases r with
    | cons h t =>
      cases t with
      | cons h' t =>
        split at e
        · rename_i k t' ek et
          cases e
          obtain ⟨kws, e1, r1, l1⟩ := pairUp_ok t et
          refine ⟨(k, p.2) :: kws, ?_, .cons h' r1, by simp [l1]⟩
          rw [List.map_cons, ← e1, ← key_ok h ek]
        · cases e
theorem RKs.foldl {kvs : List (Key × D)} {kws : List (Key × V)} (r : RKs K H φ kvs kws) : ∀ {acc : List (Key × D)} {bcc : List (Key × V)}, RKs K H φ acc bcc → RKs K H φ (kvs.foldl (fun acc kv => putD acc kv.1 kv.2) acc) (mergeK bcc kws) := by
  induction r with
  | nil => exact fun q => q
  | cons h t ih => exact fun q => ih (q.put _ h)
abbrev SPs (X : Cx) (W : WX) (pos : Pos) (keys : List (Option Expr)) (values : List Expr) (l : List (FE × FE)) : Prop := PPs X pos keys values (l.map fun p => (tE X.md W p.1, tE X.md W p.2))
variable {pos : Pos} {k v : Expr} {ks : List (Option Expr)} {vs : List Expr} {fk fv : FE} {l : List (FE × FE)}
theorem sps_nil : SPs X W pos [] [] [] := pps_nil
theorem sps_cons (hk : SE X W k fk) (hv : SE X W v fv) (hr : SPs X W pos ks vs l) : SPs X W pos (some k :: ks) (v :: vs) ((fk, fv) :: l) := pps_cons hk hv hr
theorem mono_updK {D0 : Addr} {kvs : List (Key × V)} {o : HO} (h : H D0 = some (.dK kvs)) : Mono K H φ (upd H D0 o) φ :=
  ⟨fun a xs q => by rw [upd_ne (ne_of q h (by intro z; cases z))]; exact q, fun a xs q => by
    rcases q with ⟨ob, q⟩ | q
    · exact .inl ⟨ob, by rw [upd_ne (ne_of q h (by intro z; cases z))]; exact q⟩
    · exact .inr q, fun _ _ q => q⟩
theorem se_disp (h : SPs X W pos ks vs l) (hall : ks.all (·.isSome) = true := by rfl) (hl : ks.length = vs.length := by rfl) (h0 : ks ≠ [] := by intro z; cases z) (h15 : ks.length ≤ 15 := by decide) : SE X W (.Dict ks vs pos) (fDisp l) := by
  refine pe_imp (pe_disp h hall hl h0 h15) fun σ H Q ⟨env, st, φ, a, q⟩ => fun p hp => ?_
  have e0 : Ext H φ (upd H p (.dK [])) φ := Ext.new hp
  have np : p ∉ φ := a.rs.notin hp
  have a0 : At X.md σ (upd H p (.dK [])) env st φ := ⟨a.re.mono e0.mono, a.rs.new hp⟩
  refine tPairs_of ⟨env, st, φ, a0, (Post.rebase (PostE.bind0 q) e0).mono fun ds H2 φ2 st2 e2 s2 q2 us rv ps eu => ?_⟩
  subst eu
  split at q2
  · rename_i kvs ek
    split at q2
    · rename_i c
      obtain ⟨kws, e1, r1, l1⟩ := pairUp_ok rv ek
      have hp2 : H2 p = some (.dK []) := e2.keep p _ upd_same np
      have np2 : p ∉ φ2 := e2.notin upd_same np
      have mu : Mono X.K H2 φ2 (upd H2 p (.dK (mergeK [] kws))) φ2 := mono_updK hp2
      refine ⟨hp2, kws, e1, by omega, ?_⟩
      have s3 : RS X.md.P X.md.w X.md.K (upd H2 p (.dK (mergeK [] kws))) φ2 st2 := s2.keep mu fun c hc u qq => by rw [upd_ne (fun z : c = p => np2 (z ▸ hc))]; exact qq
      have e3 : Ext H φ (upd H2 p (.dK (mergeK [] kws))) φ2 := (e0.trans e2).updNew hp
      exact q2 _ _ e3 s3 _ ⟨p, rfl, .dK upd_same ((r1.mono mu).foldl .nil), np2, hp⟩
    · exact q2.elim
  · exact q2.elim

def fPar3 (i j l : Nat) (g : FA) : FS := fun env st => (g env st).thenS env fun ds st1 => match ds with
  | [d, e, f] => .next (((env.set i (some d)).set j (some e)).set l (some f)) st1
  | _ => .stuck
theorem ss_par3 {i j l : Nat} {x y z : Str} {a b c : Expr} {g : FA} {px py pz pt pos : Pos} {kt k2 : Nat} {pt2 : Pos} (hc : X.calm = true) (hN : X.N.Nodup) (hi : X.N[i]? = some x) (hj : X.N[j]? = some y) (hl : X.N[l]? = some z) (hij : i ≠ j) (hil : i ≠ l) (hjl : j ≠ l)
    (hx : X.env.scope.names.lookup x = some .local) (hy : X.env.scope.names.lookup y = some .local) (hz : X.env.scope.names.lookup z = some .local) (ha : SA X W [a, b, c] g)
    (hw : swappedStores [.Tuple [.Name x px, .Name y py, .Name z pz] kt pt] (.Tuple [a, b, c] k2 pt2) X.env = pure (some [x, y, z]))
    (hs : swapsWithSole [.Tuple [.Name x px, .Name y py, .Name z pz] kt pt] (.Tuple [a, b, c] k2 pt2) pos.line X.env = pure false := by rfl) :
    SS X W (.Assign [.Tuple [.Name x px, .Name y py, .Name z pz] kt pt] (.Tuple [a, b, c] k2 pt2) pos) (fPar3 i j l g) := by
  refine ps_imp (ps_par3 hc hN hi hj hl hij hil hjl hx hy hz ha hw hs) fun D σ H ⟨env, st, φ, a, q⟩ => ?_
  refine ⟨env, st, φ, a, (PostS.bind a q).mono fun ds H1 φ1 st1 e1 s1 q1 vs rv => ?_⟩
  split at q1
  · cases rv with
    | cons h1 t1 =>
      cases t1 with
      | cons h2 t2 =>
        cases t2 with
        | cons h3 t3 =>
          cases t3
          exact ⟨_, _, _, rfl, q1 H1 φ1 _ e1 ⟨(((a.re.mono e1.mono).set h1).set h2).set h3, s1⟩⟩
  · exact q1.elim
end
end Fx

set_option Elab.async false
set_option linter.all false
set_option maxRecDepth 100000
set_option maxHeartbeats 4000000
set_option autoImplicit false
/-! Fx, part R: short words for the printed proofs. -/
namespace Fx
open PySem PySem.Spec PyProof.Rows L2

section
variable {X : Cx} {W : WX} {k : Nat} {p pos : Pos} {a b c : Expr} {fa fb fc : FE}
theorem nv (i : Nat) {x : Str} (hN : X.N[i]? = some x := by rfl) (hv : Vis X.env.scope x := by first | exact Or.inl rfl | exact Or.inr (Or.inl rfl) | exact Or.inr (Or.inr rfl)) (hd : (x == ("__debug__" : Str)) = false := by decide) (hcd : (x == ("__classdict__" : Str)) = false := by decide) : SE X W (.Name x pos) (fName i) := se_name hN hv hd hcd
theorem Cd.blk {s : Shared} {H : Hp} {scope : Scope} {cenv : PySem.Env} {fp : List Addr} (C : Cd X) : Cd (X.blk s H scope cenv fp) := ⟨C.hc, C.hu, C.hg⟩
theorem takesNo : Takes X WNo := fun u s' ⟨_, _, _, _, _, _, _, _, _, _, _, _, _, _, _, _, w⟩ => w.elim
variable (C : Cd X)
include C
theorem qEq (ha : SE X W a fa) (hb : SE X W b fb) : SE X W (.Compare a [.Eq] [b] pos) (fBin gEq fa fb) := se_cmp (op_eqD (Nat.lt_of_le_of_lt (by omega) C.hu)) op2_eq (nomark _) ha hb
theorem qNe (ha : SE X W a fa) (hb : SE X W b fb) : SE X W (.Compare a [.NotEq] [b] pos) (fBin gNe fa fb) := se_cmp (op_neD (Nat.lt_of_le_of_lt (by omega) C.hu)) op2_ne (nomark _) ha hb
theorem tEq (ha : SE X W a fa) (hb : SE X W b fb) : SB X W (.Compare a [.Eq] [b] pos) (fTrue (fBin gEq fa fb)) := sb_cmp (op_eqD (Nat.lt_of_le_of_lt (by omega) C.hu)) op2_eq (nomark _) ha hb
theorem tNe (ha : SE X W a fa) (hb : SE X W b fb) : SB X W (.Compare a [.NotEq] [b] pos) (fTrue (fBin gNe fa fb)) := sb_cmp (op_neD (Nat.lt_of_le_of_lt (by omega) C.hu)) op2_ne (nomark _) ha hb
theorem qIn (ha : SE X W a fa) (hb : SE X W b fb) (hm : behindInMarks .In b = false := by with_unfolding_all rfl) : SE X W (.Compare a [.In] [b] pos) (fBin gIn fa fb) := se_cmp (op_inV C) op2_in hm ha hb
theorem qNotIn (ha : SE X W a fa) (hb : SE X W b fb) (hm : behindInMarks .NotIn b = false := by with_unfolding_all rfl) : SE X W (.Compare a [.NotIn] [b] pos) (fBin gNotIn fa fb) := se_cmp (op_notInV C) op2_notIn hm ha hb
theorem tIn (ha : SE X W a fa) (hb : SE X W b fb) (hm : behindInMarks .In b = false := by with_unfolding_all rfl) : SB X W (.Compare a [.In] [b] pos) (fTrue (fBin gIn fa fb)) := sb_cmp (op_inV C) op2_in hm ha hb
theorem tNotIn (ha : SE X W a fa) (hb : SE X W b fb) (hm : behindInMarks .NotIn b = false := by with_unfolding_all rfl) : SB X W (.Compare a [.NotIn] [b] pos) (fTrue (fBin gNotIn fa fb)) := sb_cmp (op_notInV C) op2_notIn hm ha hb
omit C
theorem qIs (ha : SE X W a fa) (hb : SE X W b fb) : SE X W (.Compare a [.Is] [b] pos) (fBin gIsN fa fb) := se_cmp op_isN op2_isN (nomark _) ha hb
theorem qIsNot (ha : SE X W a fa) (hb : SE X W b fb) : SE X W (.Compare a [.IsNot] [b] pos) (fBin gNotN fa fb) := se_cmp op_notN op2_notN (nomark _) ha hb
theorem tIs (ha : SE X W a fa) (hb : SE X W b fb) : SB X W (.Compare a [.Is] [b] pos) (fTrue (fBin gIsN fa fb)) := sb_cmp op_isN op2_isN (nomark _) ha hb
theorem tIsNot (ha : SE X W a fa) (hb : SE X W b fb) : SB X W (.Compare a [.IsNot] [b] pos) (fTrue (fBin gNotN fa fb)) := sb_cmp op_notN op2_notN (nomark _) ha hb
theorem qLt (ha : SE X W a fa) (hb : SE X W b fb) : SE X W (.Compare a [.Lt] [b] pos) (fBin gLt fa fb) := se_cmp op_lt op2_lt (nomark _) ha hb
theorem qLe (ha : SE X W a fa) (hb : SE X W b fb) : SE X W (.Compare a [.LtE] [b] pos) (fBin gLe fa fb) := se_cmp op_le op2_le (nomark _) ha hb
theorem qGt (ha : SE X W a fa) (hb : SE X W b fb) : SE X W (.Compare a [.Gt] [b] pos) (fBin gGt fa fb) := se_cmp op_gt op2_gt (nomark _) ha hb
theorem qGe (ha : SE X W a fa) (hb : SE X W b fb) : SE X W (.Compare a [.GtE] [b] pos) (fBin gGe fa fb) := se_cmp op_ge op2_ge (nomark _) ha hb
theorem tLt (ha : SE X W a fa) (hb : SE X W b fb) : SB X W (.Compare a [.Lt] [b] pos) (fTrue (fBin gLt fa fb)) := sb_cmp op_lt op2_lt (nomark _) ha hb
theorem tLe (ha : SE X W a fa) (hb : SE X W b fb) : SB X W (.Compare a [.LtE] [b] pos) (fTrue (fBin gLe fa fb)) := sb_cmp op_le op2_le (nomark _) ha hb
theorem tGt (ha : SE X W a fa) (hb : SE X W b fb) : SB X W (.Compare a [.Gt] [b] pos) (fTrue (fBin gGt fa fb)) := sb_cmp op_gt op2_gt (nomark _) ha hb
theorem tGe (ha : SE X W a fa) (hb : SE X W b fb) : SB X W (.Compare a [.GtE] [b] pos) (fTrue (fBin gGe fa fb)) := sb_cmp op_ge op2_ge (nomark _) ha hb
theorem bAdd (ha : SE X W a fa) (hb : SE X W b fb) : SE X W (.BinOp a .Add b pos) (fBin gAdd fa fb) := se_op op_add4 op2_add ha hb
theorem bSub (ha : SE X W a fa) (hb : SE X W b fb) : SE X W (.BinOp a .Sub b pos) (fBin gSub fa fb) := se_op op_sub op2_sub ha hb
theorem bMul (ha : SE X W a fa) (hb : SE X W b fb) : SE X W (.BinOp a .Mult b pos) (fBin gMul fa fb) := se_op op_mul2 op2_mul ha hb
theorem bMod (ha : SE X W a fa) (hb : SE X W b fb) : SE X W (.BinOp a .Mod b pos) (fBin gMod fa fb) := se_op op_mod op2_mod ha hb
theorem bDiv (ha : SE X W a fa) (hb : SE X W b fb) : SE X W (.BinOp a .FloorDiv b pos) (fBin gDiv fa fb) := se_op op_fdiv op2_div ha hb
theorem bPow (ha : SE X W a fa) (hb : SE X W b fb) : SE X W (.BinOp a .Pow b pos) (fBin gPow fa fb) := se_op op_pow op2_pow ha hb
theorem ix (C : Cd X) (ha : SE X W a fa) (hb : SE X W b fb) (hs : PlainIx b := by intro _ _; rfl) : SE X W (.Subscript a b pos) (fBin gIx fa fb) := se_ix C ha hb hs
theorem cLen (hg : Gl X "len") (hm : X.mg "len" = none) (ha : SE X W a fa) (he : starEach (a :: []) X.env = (false, eval a X.env) :: starEach [] X.env := by rfl) (hpl : (backTo pos (starEach [] X.env)).any (·.1) = false := by rfl) : SE X W (.Call (.Name "len" p) [a] [] pos) (fCall1 gLen fa) := se_callB call_len cr1_len hg hm (by decide +kernel) ha (by decide) (by decide) he hpl
theorem cAbs (hg : Gl X "abs") (hm : X.mg "abs" = none) (ha : SE X W a fa) (he : starEach (a :: []) X.env = (false, eval a X.env) :: starEach [] X.env := by rfl) (hpl : (backTo pos (starEach [] X.env)).any (·.1) = false := by rfl) : SE X W (.Call (.Name "abs" p) [a] [] pos) (fCall1 gAbs fa) := se_callB call_abs cr1_abs hg hm (by decide +kernel) ha (by decide) (by decide) he hpl
theorem cRepr (C : Cd X) (hg : Gl X "repr") (hm : X.mg "repr" = none) (ha : SE X W a fa) (he : starEach (a :: []) X.env = (false, eval a X.env) :: starEach [] X.env := by rfl) (hpl : (backTo pos (starEach [] X.env)).any (·.1) = false := by rfl) : SE X W (.Call (.Name "repr" p) [a] [] pos) (fCall1 gRepr fa) := se_callB (call_reprV C) cr1_repr hg hm (by decide +kernel) ha (by decide) (by decide) he hpl
theorem cSorted (C : Cd X) (hg : Gl X "sorted") (hm : X.mg "sorted" = none) (ha : SE X W a fa) (he : starEach (a :: []) X.env = (false, eval a X.env) :: starEach [] X.env := by rfl) (hpl : (backTo pos (starEach [] X.env)).any (·.1) = false := by rfl) : SE X W (.Call (.Name "sorted" p) [a] [] pos) (fCall1 gSorted fa) := se_callB (cr_sortedA C) cr1_sorted hg hm (by decide +kernel) ha (by decide) (by decide) he hpl
theorem cInt (hg : Gl X "int") (hm : X.mg "int" = none) (ha : SE X W a fa) (he : starEach (a :: []) X.env = (false, eval a X.env) :: starEach [] X.env := by rfl) (hpl : (backTo pos (starEach [] X.env)).any (·.1) = false := by rfl) : SE X W (.Call (.Name "int" p) [a] [] pos) (fCall1 gInt fa) := se_callTy call_int1 cr1_int hg hm (by decide +kernel) ha (by decide) (by decide) he hpl
theorem cTuple (hg : Gl X "tuple") (hm : X.mg "tuple" = none) (ha : SE X W a fa) (he : starEach (a :: []) X.env = (false, eval a X.env) :: starEach [] X.env := by rfl) (hpl : (backTo pos (starEach [] X.env)).any (·.1) = false := by rfl) : SE X W (.Call (.Name "tuple" p) [a] [] pos) (fCall1 gTuple fa) := se_callTy call_tuple_of cr1_tuple hg hm (by decide +kernel) ha (by decide) (by decide) he hpl
theorem cList (hg : Gl X "list") (hm : X.mg "list" = none) (ha : SE X W a fa) (he : starEach (a :: []) X.env = (false, eval a X.env) :: starEach [] X.env := by rfl) (hpl : (backTo pos (starEach [] X.env)).any (·.1) = false := by rfl) : SE X W (.Call (.Name "list" p) [a] [] pos) (fCall1 gList fa) := se_callTy call_list_of cr1_list hg hm (by decide +kernel) ha (by decide) (by decide) he hpl
theorem cSet (C : Cd X) (hg : Gl X "set") (hm : X.mg "set" = none) (ha : SE X W a fa) (he : starEach (a :: []) X.env = (false, eval a X.env) :: starEach [] X.env := by rfl) (hpl : (backTo pos (starEach [] X.env)).any (·.1) = false := by rfl) : SE X W (.Call (.Name "set" p) [a] [] pos) (fCall1 gSetT fa) := se_callTy (cr_setOfT C.hc (Nat.lt_of_le_of_lt (by omega) C.hu)) cr1_setT hg hm (by decide +kernel) ha (by decide) (by decide) he hpl
end
theorem gl_nil : ∀ env st ds st', fNil env st = .ok ds st' → ds.length = 0 := fun env st ds st' h => by
  unfold fNil at h; cases h; rfl
theorem gl_cons {f : FE} {g : FA} {n : Nat} (h : ∀ env st ds st', g env st = .ok ds st' → ds.length = n) : ∀ env st ds st', fCons f g env st = .ok ds st' → ds.length = n + 1 := fun env st ds st' e => by
  unfold fCons at e
  cases e1 : f env st with
  | ok r st1 =>
    rw [e1] at e
    simp only [Out.bind] at e
    cases e2 : g env (alloc r st1).2 with
    | ok ds2 st2 => rw [e2] at e; cases e; simp [h _ _ _ _ e2]
    | exc _ _ => rw [e2] at e; cases e
    | stuck => rw [e2] at e; cases e
  | exc _ _ => rw [e1] at e; cases e
  | stuck => rw [e1] at e; cases e
end Fx

set_option Elab.async false
set_option linter.all false
set_option maxRecDepth 100000
set_option maxHeartbeats 4000000
set_option autoImplicit false
/-! Fx, part S: plain tools: what a def gives back, loops by invariants. -/
namespace Fx
open PySem PySem.Spec PyProof.Rows L2

/-! ### what is given back -/
mutual
theorem Bl.mono {n m : Nat} (h : n ≤ m) : ∀ {d : D}, Bl n d → Bl m d
  | _, .non => .non
  | _, .bl b => .bl b
  | _, .int i => .int i
  | _, .str x => .str x
  | _, .tup t => .tup (Bls.mono h t)
  | _, .lz t => .lz (Bls.mono h t)
  | _, .ref q => .ref (Nat.lt_of_lt_of_le q h)
theorem Bls.mono {n m : Nat} (h : n ≤ m) : ∀ {ds : List D}, Bls n ds → Bls m ds
  | _, .nil => .nil
  | _, .cons a b => .cons (Bl.mono h a) (Bls.mono h b)
end
theorem bls_ints {n : Nat} (L : List Int) : Bls n (L.map D.int) := Bls.of fun d hd => by
  obtain ⟨i, _, rfl⟩ := List.mem_map.mp hd
  exact .int i
theorem bl_tints {n : Nat} (L : List Int) : Bl n (.tup (L.map D.int)) := .tup (bls_ints L)
theorem oldOk_refl (st : Store) : OldOk st st := ⟨Nat.le_refl _, fun i o _ h => .inl h⟩
theorem oldOk_app (st ex : Store) : OldOk st (st ++ ex) := ⟨by simp, fun i o hi h => .inl (by rwa [List.getElem?_append_left hi] at h)⟩
theorem gc_take {st st' : Store} {d : D} (o : OldOk st st') (b : Bl st.length d) : gc st (.ok (.v d) st') = .ok (.v d) (st'.take st.length) := by
  unfold gc
  simp only [if_pos o, if_pos b]
theorem gc_new {st ex : Store} {d : D} (b : Bl st.length d) : gc st (.ok (.v d) (st ++ ex)) = .ok (.v d) st := by
  rw [gc_take (oldOk_app st ex) b, List.take_left]
theorem gc_newO {st ex : Store} {x : O} (b : OBl st.length x) : gc st (.ok (.o x) (st ++ ex)) = .ok (.o x) st := by
  unfold gc
  simp only [if_pos (oldOk_app st ex), if_pos b, List.take_left]
theorem gc_ref {st ex : Store} {m : Nat} {x : O} (h : (st ++ ex)[m]? = some x) (hm : st.length ≤ m) (b : OBl st.length x) : gc st (.ok (.v (.ref m)) (st ++ ex)) = .ok (.o x) st := by
  unfold gc
  have nb : ¬ Bl st.length (.ref m) := fun z => by
    cases z with
    | ref q => omega
  simp only [if_pos (oldOk_app st ex), if_neg nb, h, if_pos b, List.take_left]
theorem gc_refKeep {st ex : Store} {m : Nat} {x : O} (h : (st ++ ex)[m]? = some x) (b : ¬ OBl st.length x) (hm : st.length ≤ m) : gc st (.ok (.v (.ref m)) (st ++ ex)) = .ok (.v (.ref m)) (st ++ ex) := by
  unfold gc
  have nb : ¬ Bl st.length (.ref m) := fun z => by
    cases z with
    | ref q => omega
  simp only [if_pos (oldOk_app st ex), if_neg nb, h, if_neg b]
theorem gc_same {st : Store} {r : R} : gc st (.ok r st) = .ok r st := by
  have h : gc st (.ok r (st ++ [])) = .ok r (st ++ []) := by
    unfold gc
    simp only [if_pos (oldOk_app st [])]
    cases r with
    | o x =>
      by_cases b : OBl st.length x
      · simp [b]
      · simp [b]
    | v d =>
      simp only
      split
      · simp
      · rename_i nb
        split
        · rename_i m
          have hm : ¬ m < st.length := fun z => nb (.ref z)
          have : (st ++ [])[m]? = none := by simp; omega
          rw [this]
        · rfl
  simpa using h
theorem gc_newO' {st ex : Store} {x : O} (b : ¬ OBl st.length x) : gc st (.ok (.o x) (st ++ ex)) = .ok (.o x) (st ++ ex) := by
  unfold gc
  simp only [if_pos (oldOk_app st ex), if_neg b]

/-! ### loops -/
theorem compL_pure {ok : Store → Prop} {tg : FG} {tt : FB} {elt : FE} {e0 : Env} {st : Store} (hok : ok st) (c : D → Bool) (r : D → D) : ∀ (ds acc : List D),
    (∀ d ∈ ds, ∃ e1, tg d e0 = some e1 ∧ tt e1 st = .ok (c d) st ∧ (c d = true → elt e1 st = .ok (.v (r d)) st)) → acc.length + ds.length ≤ 1000000 →
    compL ok tg tt elt e0 ds acc st = .ok (.o (.lst (acc ++ (ds.filter c).map r))) st
  | [], acc, _, _ => by unfold compL; rw [if_pos hok]; simp
  | d :: ds, acc, h, hl => by
    obtain ⟨e1, h1, h2, h3⟩ := h d List.mem_cons_self
    have ht := fun d hd => h d (List.mem_cons_of_mem _ hd)
    simp only [List.length_cons] at hl
    unfold compL
    rw [if_pos hok, h1]
    simp only [h2, Out.nox_ok, Out.bind]
    cases e : c d with
    | true =>
      simp only [h3 e, Out.nox_ok, Out.bind, if_true]
      rw [if_pos (by omega)]
      simp only [alloc_v]
      rw [compL_pure hok c r ds _ ht (by simp; omega), List.filter_cons_of_pos e]
      simp
    | false =>
      simp only [Bool.false_eq_true, if_false]
      rw [compL_pure hok c r ds _ ht (by omega), List.filter_cons_of_neg (by simp [e])]
theorem compL_ex {ok : Store → Prop} {tg : FG} {tt : FB} {elt : FE} {e0 : Env} (I : Store → Prop) (Pd : D → Prop) (hok : ∀ st, I st → ok st) : ∀ (ds acc : List D) (st : Store),
    (∀ d ∈ ds, ∀ st, I st → ∃ e1 b st1, tg d e0 = some e1 ∧ tt e1 st = .ok b st1 ∧ I st1 ∧ (b = true → ∃ v st2, elt e1 st1 = .ok (.v v) st2 ∧ I st2 ∧ Pd v)) → acc.length + ds.length ≤ 1000000 → I st → (∀ v ∈ acc, Pd v) →
    ∃ out st', compL ok tg tt elt e0 ds acc st = .ok (.o (.lst out)) st' ∧ I st' ∧ (∀ v ∈ out, Pd v) ∧ out.length ≤ acc.length + ds.length
  | [], acc, st, _, _, hi, ha => by
    unfold compL
    rw [if_pos (hok st hi)]
    exact ⟨acc, st, rfl, hi, ha, by simp⟩
  | d :: ds, acc, st, h, hl, hi, ha => by
    obtain ⟨e1, b, st1, h1, h2, h3, h4⟩ := h d List.mem_cons_self st hi
    have ht := fun d hd => h d (List.mem_cons_of_mem _ hd)
    simp only [List.length_cons] at hl
    unfold compL
    rw [if_pos (hok st hi), h1]
    simp only [h2, Out.nox_ok, Out.bind]
    cases b with
    | true =>
      obtain ⟨v, st2, k1, k2, k3⟩ := h4 rfl
      simp only [k1, Out.nox_ok, Out.bind, if_true]
      rw [if_pos (by omega)]
      simp only [alloc_v]
      obtain ⟨out, st', q1, q2, q3, q4⟩ := compL_ex I Pd hok ds (acc ++ [v]) st2 ht (by simp; omega) k2 (fun z hz => by
        rcases List.mem_append.mp hz with z' | z'
        · exact ha z z'
        · rw [List.mem_singleton.mp z']; exact k3)
      exact ⟨out, st', q1, q2, q3, by simp at q4 ⊢; omega⟩
    | false =>
      simp only [Bool.false_eq_true, if_false]
      obtain ⟨out, st', q1, q2, q3, q4⟩ := compL_ex I Pd hok ds acc st1 ht (by omega) h3 ha
      exact ⟨out, st', q1, q2, q3, by simp; omega⟩
/-- without a test: as many as there are -/
theorem compL_all {ok : Store → Prop} {tg : FG} {elt : FE} {e0 : Env} (I : Store → Prop) (Pd : D → Prop) (hok : ∀ st, I st → ok st) : ∀ (ds acc : List D) (st : Store),
    (∀ d ∈ ds, ∀ st, I st → ∃ e1 v st2, tg d e0 = some e1 ∧ elt e1 st = .ok (.v v) st2 ∧ I st2 ∧ Pd v) → acc.length + ds.length ≤ 1000000 → I st → (∀ v ∈ acc, Pd v) →
    ∃ out st', compL ok tg fYes elt e0 ds acc st = .ok (.o (.lst out)) st' ∧ I st' ∧ (∀ v ∈ out, Pd v) ∧ out.length = acc.length + ds.length
  | [], acc, st, _, _, hi, ha => by
    unfold compL
    rw [if_pos (hok st hi)]
    exact ⟨acc, st, rfl, hi, ha, by simp⟩
  | d :: ds, acc, st, h, hl, hi, ha => by
    obtain ⟨e1, v, st2, h1, k1, k2, k3⟩ := h d List.mem_cons_self st hi
    have ht := fun d hd => h d (List.mem_cons_of_mem _ hd)
    simp only [List.length_cons] at hl
    unfold compL
    rw [if_pos (hok st hi), h1]
    simp only [fYes, k1, Out.nox_ok, Out.bind, if_true]
    rw [if_pos (by omega)]
    simp only [alloc_v]
    obtain ⟨out, st', q1, q2, q3, q4⟩ := compL_all I Pd hok ds (acc ++ [v]) st2 ht (by simp; omega) k2 (fun z hz => by
      rcases List.mem_append.mp hz with z' | z'
      · exact ha z z'
      · rw [List.mem_singleton.mp z']; exact k3)
    exact ⟨out, st', q1, q2, q3, by simp at q4 ⊢; omega⟩
theorem forL_inv {ok : Store → Prop} {tg : FG} {body : FS} {e0 : Env} (I : List D → Env → Store → Prop) (hok : ∀ ds env st, I ds env st → ok st ∧ e0.length = env.length)
    (step : ∀ d ds env st, I (d :: ds) env st → ∃ env1, tg d (scope e0 env) = some env1 ∧ ∃ e s, (body env1 st = .next e s ∨ body env1 st = .cont e s) ∧ I ds e s) : ∀ (ds : List D) (env : Env) (st : Store), I ds env st →
    ∃ e s, forL ok tg body e0 ds env st = .next (scope e0 e) s ∧ I [] e s
  | [], env, st, h => by
    unfold forL
    rw [if_pos (hok _ _ _ h)]
    exact ⟨env, st, rfl, h⟩
  | d :: ds, env, st, h => by
    obtain ⟨env1, h1, e, s, h2, h3⟩ := step d ds env st h
    obtain ⟨e', s', q1, q2⟩ := forL_inv I hok step ds e s h3
    refine ⟨e', s', ?_, q2⟩
    unfold forL
    rw [if_pos (hok _ _ _ h), h1]
    rcases h2 with h2 | h2
    · simp only [h2]; exact q1
    · simp only [h2]; exact q1
theorem while_inv {c : FB} {body : FS} {e0 : Env} (I : Env → Store → Prop) (Fin : Env → Store → Prop) (μ : Env → Store → Nat)
    (step : ∀ env st, I env st → (∃ st1, c env st = .ok false st1 ∧ Fin env st1) ∨ ∃ st1 e s, c env st = .ok true st1 ∧ body env st1 = .next e s ∧ e0.length = e.length ∧ I (scope e0 e) s ∧ μ (scope e0 e) s < μ env st) :
    ∀ (k : Nat) (env : Env) (st : Store), I env st → μ env st < k → ∃ e s, whileL c body e0 k env st = .next e s ∧ Fin e s
  | 0, env, st, _, h => absurd h (Nat.not_lt_zero _)
  | k + 1, env, st, hi, hk => by
    rcases step env st hi with ⟨st1, h1, h2⟩ | ⟨st1, e, s, h1, h2, h3, h4, h5⟩
    · refine ⟨env, st1, ?_, h2⟩
      simp [whileL, h1, Out.thenS]
    · obtain ⟨e', s', q1, q2⟩ := while_inv I Fin μ step k (scope e0 e) s h4 (by omega)
      refine ⟨e', s', ?_, q2⟩
      simp only [whileL, h1, Out.thenS, if_true, h2]
      rw [if_pos h3]; exact q1
theorem fWhile_inv {c : FB} {body : FS} (I : Env → Store → Prop) (Fin : Env → Store → Prop) (μ : Env → Store → Nat) {e0 : Env} {st : Store} (h0 : I e0 st)
    (step : ∀ env st, I env st → (∃ st1, c env st = .ok false st1 ∧ Fin env st1) ∨ ∃ st1 e s, c env st = .ok true st1 ∧ body env st1 = .next e s ∧ e0.length = e.length ∧ I (scope e0 e) s ∧ μ (scope e0 e) s < μ env st) :
    ∃ e s, fWhile c body e0 st = .next e s ∧ Fin e s := by
  obtain ⟨e, s, h1, h2⟩ := while_inv I Fin μ step (μ e0 st + 1) e0 st h0 (Nat.lt_succ_self _)
  exact ⟨e, s, fWhile_eq _ h1 (by simp), h2⟩

/-! ### data -/
theorem toP_int {st : Store} {n : Nat} (i : Int) : D.toP st (n + 1) (.int i) = some (.int i) := rfl
theorem mapM_ints {st : Store} {n : Nat} : ∀ L : List Int, (L.map D.int).mapM (D.toP st (n + 1)) = some (L.map PyData.int)
  | [] => rfl
  | i :: L => by
    rw [List.map_cons, List.mapM_cons, mapM_ints L]; rfl
theorem any_ints (s : Int) : ∀ L : List Int, ((L.map PyData.int).any fun z => PyData.eqv z (.int s)) = decide (s ∈ L)
  | [] => rfl
  | i :: L => by
    rw [List.map_cons, List.any_cons, any_ints s L]
    by_cases h : i = s
    · subst h; simp [PyData.eqv]
    · simp [PyData.eqv, h, Ne.symm h]
theorem inP_tup {st : Store} (s : Int) (L : List Int) : inP st (.v (.int s)) (.v (.tup (L.map D.int))) = some (decide (s ∈ L)) := by
  simp only [inP, itemsP, mapM_ints, R.toP, toP_int, Option.map_some, any_ints]
theorem inP_lst {st : Store} (s : Int) (L : List Int) : inP st (.v (.int s)) (.o (.lst (L.map D.int))) = some (decide (s ∈ L)) := by
  simp only [inP, itemsP, seqL, Option.bind_some, mapM_ints, R.toP, toP_int, Option.map_some, any_ints]
theorem inP_ref {st : Store} {n : Nat} (s : Int) (L : List Int) (h : st[n]? = some (.lst (L.map D.int))) : inP st (.v (.int s)) (.v (.ref n)) = some (decide (s ∈ L)) := by
  simp only [inP, itemsP, seqL_ref h, Option.bind_some, mapM_ints, R.toP, toP_int, Option.map_some, any_ints]
theorem inP_dK {st : Store} {n : Nat} {kvs : List (Key × D)} (s : Int) (h : st[n]? = some (.dK kvs)) : inP st (.v (.int s)) (.v (.ref n)) = some (valD kvs (.inl s)).isSome := by
  have e : seqL st (.v (.ref n)) = none := by simp [seqL, h]
  simp only [inP, itemsP, e, Option.bind_none, dictGet, objOf_ref, h, D.key, Option.map_some]
end Fx

set_option Elab.async false
set_option linter.all false
set_option maxRecDepth 100000
set_option maxHeartbeats 4000000
set_option autoImplicit false
/-! Fx, part T: what each construct comes to, one row each. -/
namespace Fx
open PySem PySem.Spec PyProof.Rows L2
theorem gc_eq {st st' : Store} {d : D} (hl : st'.length = st.length) (h : ∀ (i : Nat) (o : O), st'[i]? = some o → st[i]? = some o ∨ OBl st.length o) (b : Bl st.length d) : gc st (.ok (.v d) st') = .ok (.v d) st' := by
  rw [gc_take ⟨by omega, fun i o _ e => h i o e⟩ b, List.take_of_length_le (by omega)]
theorem set_old {st : Store} {n : Nat} {x : O} (b : OBl st.length x) : ∀ (i : Nat) (o : O), (st.set n x)[i]? = some o → st[i]? = some o ∨ OBl st.length o := fun i o e => by
  by_cases h : n = i
  · subst h
    by_cases hl : n < st.length
    · rw [List.getElem?_set_self hl] at e; cases e; exact .inr b
    · rw [List.getElem?_eq_none (by simp; omega)] at e; cases e
  · rw [List.getElem?_set_ne h] at e; exact .inl e
section
variable {env : Fx.Env} {st st1 st2 st3 : Store} {fa fb f fo : FE} {g : FA} {ra rb r ro : R} {d : D} {i : Nat} {ds : List D} {b : Bool}
theorem ev_name (h : env[i]? = some (some d)) : fName i env st = .ok (.v d) st := by simp [fName, h]
theorem ev_c : fC d env st = .ok (.v d) st := rfl
theorem ev_bin {h : F2} (h1 : fa env st = .ok ra st1) (h2 : fb env st1 = .ok rb st2) : fBin h fa fb env st = h ra rb st2 := by
  unfold fBin; rw [h1]; simp only [Out.bind]; rw [h2]
theorem ev_call1 {h : R → Store → Out R} (h1 : fa env st = .ok ra st1) : fCall1 h fa env st = h ra st1 := by
  unfold fCall1; rw [h1]; rfl
theorem ev_nil : fNil env st = .ok [] st := rfl
theorem ev_cons (h1 : f env st = .ok r st1) (h2 : g env (Fx.alloc r st1).2 = .ok ds st2) : fCons f g env st = .ok ((Fx.alloc r st1).1 :: ds) st2 := by
  unfold fCons; rw [h1]; simp only [Out.bind]; rw [h2]
theorem ev_consV (h1 : f env st = .ok (.v d) st1) (h2 : g env st1 = .ok ds st2) : fCons f g env st = .ok (d :: ds) st2 := ev_cons h1 h2
theorem ev_consO {x : O} (h1 : f env st = .ok (.o x) st1) (h2 : g env (st1 ++ [x]) = .ok ds st2) : fCons f g env st = .ok (.ref st1.length :: ds) st2 := ev_cons h1 h2
theorem ev_tup (h1 : g env st = .ok ds st1) (h : ds.length ≤ 1000000) : fTup g env st = .ok (.v (.tup ds)) st1 := by
  unfold fTup; rw [h1]; simp only [Out.bind]; rw [if_pos h]
theorem ev_lst (h1 : g env st = .ok ds st1) (h : ds.length ≤ 1000000) : fLst g env st = .ok (.o (.lst ds)) st1 := by
  unfold fLst; rw [h1]; simp only [Out.bind]; rw [if_pos h]
theorem ev_true (h1 : fa env st = .ok (.v (.bl b)) st1) : fTrue fa env st = .ok b st1 := by
  unfold fTrue; rw [h1]; rfl
theorem ev_if {c : FB} (h1 : c env st = .ok b st1) : fIf c fa fb env st = if b = true then fa env st1 else fb env st1 := by
  unfold fIf; rw [h1]; rfl
theorem ev_and {c c' : FB} (h1 : c env st = .ok b st1) : fAnd c c' env st = if b = true then c' env st1 else .ok false st1 := by
  unfold fAnd; rw [h1]; rfl
theorem ev_or {c c' : FB} (h1 : c env st = .ok b st1) : fOr c c' env st = if b = true then .ok true st1 else c' env st1 := by
  unfold fOr; rw [h1]; rfl
theorem ev_not {c : FB} (h1 : c env st = .ok b st1) : fNot c env st = .ok (!b) st1 := by
  unfold fNot; rw [h1]; rfl
theorem ev_call {F : FF} (h1 : g env st = .ok ds st1) (h2 : F ds st1 = .ok r st2) : fCall F g env st = gc st (.ok r st2) := by
  unfold fCall; rw [h1]; simp only [Out.bind]; rw [h2]
theorem ev_callS {F : FF} (h1 : g env st = .ok ds st) (h2 : F ds st = .ok r st) : fCall F g env st = .ok r st := by rw [ev_call h1 h2, gc_same]
theorem ev_meth1 {h : F3} {xs : List D} (h1 : fo env st = .ok ro st1) (hs : seqL st1 ro = some xs) (h2 : fa env st1 = .ok ra st2) : fMeth1 h fo fa env st = h ro ra st2 := by
  unfold fMeth1; rw [h1]; simp only [Out.bind, hs, h2]
theorem ev_meth0 {h : R → Store → Out R} {xs : List D} (h1 : fo env st = .ok ro st1) (hs : seqL st1 ro = some xs) : fMeth0 h fo env st = h ro st1 := by
  unfold fMeth0; rw [h1]; simp only [Out.bind, hs]
theorem ev_it (h1 : fa env st = .ok ra st1) : fIt fa env st = sqOf ra st1 := by
  unfold fIt; rw [h1]; rfl
theorem ev_comp {fi : FI} {q : Sq} {tg : FG} {tt : FB} {el : FE} {own : List Nat} (h1 : fi env st = .ok q st1) : fComp fi tg tt el own env st = compL q.ok tg tt el (wipeE env own) q.xs [] st1 := by
  unfold fComp; rw [h1]; rfl
theorem ev_rng1 {j : Int} (h1 : fa env st = .ok (.v (.int j)) st1) (h : j < 1000000000 ∧ -1000000000 < j) : fRng1 fa env st = .ok ⟨rngD 0 j.toNat, Sq.any⟩ st1 := by
  unfold fRng1; rw [h1]; simp only [Out.bind]; rw [if_pos h]
theorem ev_listRng1 {j : Int} (h1 : fa env st = .ok (.v (.int j)) st1) (h : 0 ≤ j ∧ j < 1000000) : fListRng1 fa env st = .ok (.o (.lst (rngD 0 j.toNat))) st1 := by
  unfold fListRng1; rw [h1]; simp only [Out.bind]; rw [if_pos h]
-- statements
variable {s1 s2 : FS} {k : Nat} {o : OutS}
theorem ex_seq {e1 : Fx.Env} (h1 : s1 env st = .next e1 st1) : fSeq s1 s2 env st = s2 e1 st1 := by
  unfold fSeq; rw [h1]; rfl
theorem ex_seqR (h1 : s1 env st = .ret r st1) : fSeq s1 s2 env st = .ret r st1 := by
  unfold fSeq; rw [h1]; rfl
theorem ex_expr (h1 : fa env st = .ok r st1) : fExpr fa env st = .next env st1 := by
  unfold fExpr; rw [h1]; rfl
theorem ex_ret (h1 : fa env st = .ok r st1) : fRet fa env st = .ret r st1 := by
  unfold fRet; rw [h1]; rfl
theorem ex_if {c : FB} (h1 : c env st = .ok b st1) : fIfS c s1 s2 env st = if b = true then s1 env st1 else s2 env st1 := by
  unfold fIfS; rw [h1]; rfl
theorem ex_set (h1 : fa env st = .ok (.v d) st1) : fSet k fa env st = .next (env.set k (some d)) st1 := by
  unfold fSet; rw [h1]; rfl
theorem ex_setO {x : O} (h1 : fa env st = .ok (.o x) st1) : fSet k fa env st = .next (env.set k (some (.ref st1.length))) (st1 ++ [x]) := by
  unfold fSet; rw [h1]; rfl
theorem ex_par {i j : Nat} {d e : D} (h1 : g env st = .ok [d, e] st1) : fPar i j g env st = .next ((env.set i (some d)).set j (some e)) st1 := by
  unfold fPar; rw [h1]; rfl
theorem ex_for {fi : FI} {tg : FG} {body : FS} {q : Sq} (h1 : fi env st = .ok q st1) : fFor fi tg body env st = forL q.ok tg body env q.xs env st1 := by
  unfold fFor; rw [h1]; rfl
theorem ex_put {f fo fi : FE} {k : R} (h1 : f env st = .ok (.v d) st1) (h2 : fo env st1 = .ok ro st2) (h3 : fi env st2 = .ok k st3) {st4 : Store} (h4 : Fx.putAt ro k d st3 = some st4) : fPut f fo fi env st = .next env st4 := by
  unfold fPut; rw [h1]; simp only [Out.thenS, alloc_v]; rw [h2]; simp only; rw [h3]; simp only [h4]
theorem app_int {n : Nat} {W : List Int} (v : Int) (h : st[n]? = some (.lst (W.map .int))) (hl : W.length < 1000000) : gAppend (.v (.ref n)) (.v (.int v)) st = .ok (.v .non) (st.set n (.lst ((W ++ [v]).map .int))) := by
  unfold gAppend
  simp only [alloc_v, lstAt, h]
  rw [if_pos (by simpa using hl)]
  simp
theorem pop_last {n : Nat} {xs : List D} (h : st[n]? = some (.lst (xs ++ [d]))) : gPop (.v (.ref n)) st = .ok (.v d) (st.set n (.lst xs)) := by
  unfold gPop
  simp only [lstAt, h]
  have e : (xs ++ [d])[(xs ++ [d]).length - 1]? = some d := by simp
  rw [e]
  simp
theorem ix_tup {xs : List D} {i : Nat} (h : xs[i]? = some d) : gIx (.v (.tup xs)) (.v (.int (i : Nat))) st = .ok (.v d) st := by
  have hl : i < xs.length := (List.getElem?_eq_some_iff.mp h).1
  have e : L2.atI xs ((i : Nat) : Int) = some d := by
    unfold L2.atI L2.ixN
    rw [if_pos (by omega), if_pos (by omega)]
    simpa using h
  unfold gIx idx
  simp only [e]
theorem ix_lst {xs : List D} {i n : Nat} (hn : st[n]? = some (.lst xs)) (h : xs[i]? = some d) : gIx (.v (.ref n)) (.v (.int (i : Nat))) st = .ok (.v d) st := by
  have hl : i < xs.length := (List.getElem?_eq_some_iff.mp h).1
  have e : L2.atI xs ((i : Nat) : Int) = some d := by
    unfold L2.atI L2.ixN
    rw [if_pos (by omega), if_pos (by omega)]
    simpa using h
  unfold gIx idx
  simp only [seqL_ref hn, e]
end
end Fx

set_option Elab.async false
set_option linter.all false
set_option maxRecDepth 100000
set_option maxHeartbeats 4000000
set_option autoImplicit false
/-! Fx, part U: is of bools, min of two, sum of a tuple of small ints. -/
namespace Fx
open PySem PySem.Spec PyProof.Rows L2

def gIsB : F2 := fun ra rb st => match ra, rb with
  | .v (.bl a), .v (.bl b) => .ok (.v (.bl (decide (a = b)))) st
  | _, _ => .stuck
def gNotB : F2 := fun ra rb st => match ra, rb with
  | .v (.bl a), .v (.bl b) => .ok (.v (.bl (!decide (a = b)))) st
  | _, _ => .stuck
section
variable {X : Cx} {W : WX} {p pos : Pos} {a b : Expr} {fa fb : FE}
theorem op2_isB : Op2 X rIsB gIsB := by
  intro W σ H H0 H0' φ st ra rb x y Q s rx ry h
  unfold gIsB at h
  split at h
  · exact ⟨_, _, bl_ok rx, bl_ok ry, of_val s (.bl _) h⟩
  · exact h.elim
theorem op2_notB : Op2 X rNotB gNotB := by
  intro W σ H H0 H0' φ st ra rb x y Q s rx ry h
  unfold gNotB at h
  split at h
  · exact ⟨_, _, bl_ok rx, bl_ok ry, of_val s (.bl _) h⟩
  · exact h.elim
theorem qIsB (ha : SE X W a fa) (hb : SE X W b fb) : SE X W (.Compare a [.Is] [b] pos) (fBin gIsB fa fb) := se_cmp op_isBl op2_isB (nomark _) ha hb
theorem qIsNotB (ha : SE X W a fa) (hb : SE X W b fb) : SE X W (.Compare a [.IsNot] [b] pos) (fBin gNotB fa fb) := se_cmp op_notBl op2_notB (nomark _) ha hb
theorem tIsB (ha : SE X W a fa) (hb : SE X W b fb) : SB X W (.Compare a [.Is] [b] pos) (fTrue (fBin gIsB fa fb)) := sb_cmp op_isBl op2_isB (nomark _) ha hb
theorem tIsNotB (ha : SE X W a fa) (hb : SE X W b fb) : SB X W (.Compare a [.IsNot] [b] pos) (fTrue (fBin gNotB fa fb)) := sb_cmp op_notBl op2_notB (nomark _) ha hb
/-- min(a, b) -/
def fMin2 (g : FA) : FE := fun env st => (g env st).bind fun ds st1 => match ds with
  | [.int i, .int j] => .ok (.v (.int (if j < i then j else i))) st1
  | _ => .stuck
theorem cMin2 {g : FA} (hc : X.calm = true) (hg : Gl X "min") (hm : X.mg "min" = none) (ha : SA X W [a, b] g) (he : starEach (a :: [b]) X.env = (false, eval a X.env) :: starEach [b] X.env := by rfl) (hpl : (backTo pos (starEach [b] X.env)).any (·.1) = false := by rfl) :
    SE X W (.Call (.Name "min" p) [a, b] [] pos) (fMin2 g) := by
  refine pe_imp (pe_callB (call_min2 hc) hg hm (by decide +kernel) ha (by decide) (by decide) he hpl) fun σ H Q ⟨env, st, φ, a, q⟩ => ?_
  refine tA_seq a q fun ds st1 H1 φ1 vs e1 a1 rv q1 => ?_
  split at q1
  · rename_i i j
    cases rv with
    | cons r1 t =>
      cases t with
      | cons r2 t =>
        cases t
        cases r1
        cases r2
        exact ⟨i, j, rfl, of_val a1.rs (.int _) q1⟩
  · exact q1.elim
end
/-! ### sum -/
def rSumT (K : PySem.W.Frag) : List V → Hp → VK → Prop := fun vs H Q => ∃ (a : Addr) (ns : List Int), vs = [V.ref a] ∧ SqT K H a (ns.map V.int) ∧ (ns.length < 1000 ∧ ∀ v ∈ ns, 0 ≤ v ∧ v < 1000) ∧ Q (.int ns.sum) H
theorem preSum_take (ns : List Int) : ∀ k : Nat, k ≤ ns.length → preSum (fun i => ns.getD i 0) k = (ns.take k).sum
  | 0, _ => by simp [preSum]
  | k + 1, h => by
    have e : ns[k]? = some ns[k] := List.getElem?_eq_getElem (by omega)
    rw [preSum, preSum_take ns k (by omega), List.take_add_one, e, List.sum_append]
    simp [List.getD, e]
theorem take_bnd : ∀ (ns : List Int), (∀ v ∈ ns, 0 ≤ v ∧ v < 1000) → 0 ≤ ns.sum ∧ ns.sum ≤ 1000 * (ns.length : Int)
  | [], _ => by simp
  | a :: ns, h => by
    have := take_bnd ns fun v hv => h v (List.mem_cons_of_mem _ hv)
    have := h a List.mem_cons_self
    simp only [List.sum_cons, List.length_cons]
    omega
theorem cr_sumT {X : Cx} (hc : X.calm = true) : CallR X (.builtin "sum") (rSumT X.K) := by
  intro pins s σ H vs us Q I r h
  obtain ⟨a, ns, rfl, hs, ⟨hl, hb⟩, q⟩ := h
  obtain ⟨its, rv, p, _⟩ := I.tuple hs
  rw [Vals.ref1 r]
  have hlen := rv.length
  simp only [List.length_map] at hlen
  refine call_sum_walk (wpAny_pyIter_tuple (show s.heap.IsTuple a its.toArray from p) ?_)
  have hne : a ≠ s.heap.objs.size := by obtain ⟨o, ho, _⟩ := id p; exact Nat.ne_of_lt (Heap.lt_size ho)
  refine ⟨s.heap.objs.size, _, _, _, _, _, fun i => ns.getD i 0, rfl, Walks.tuple (A := X.A.in1) (show X.A.in1.handled = none from I.ok.hd hc) s.heap.objs.size a hne its.toArray, ⟨⟨_, Heap.get?_push_size _ rfl, rfl, rfl⟩, ?_⟩, ?_, ?_, ?_, ?_⟩
  · obtain ⟨o, ho, h2⟩ := id p
    exact ⟨o, Heap.get?_push_of_some _ ho, h2⟩
  · intro b hb
    obtain ⟨o, ho, _⟩ := id p
    have e : b = s.heap.objs.size ∨ b = a := by simpa using hb
    show b < (s.heap.push _).objs.size
    rw [Heap.size_push]
    rcases e with e | e
    · rw [e]; exact Nat.lt_succ_self _
    · rw [e]; exact Nat.lt_succ_of_lt (Heap.lt_size ho)
  · intro i v hv
    have hv' : its[i]? = some v := by simpa using hv
    have hi : i < ns.length := by rw [hlen]; exact (List.getElem?_eq_some_iff.mp hv').1
    have e1 : (ns.map V.int)[i]? = some (.int (ns.getD i 0)) := by
      rw [List.getElem?_map, List.getElem?_eq_getElem hi]; simp [List.getD, List.getElem?_eq_getElem hi]
    obtain ⟨u, hu, ru⟩ := rv.get e1
    rw [hv'] at hu; cases hu
    obtain ⟨t, rfl⟩ := ru
    exact ⟨t, rfl⟩
  · intro j hj
    have hj' : j < ns.length := by rw [hlen]; simpa using hj
    have b1 : 0 ≤ ns.getD j 0 ∧ ns.getD j 0 < 1000 := by
      simp only [List.getD, List.getElem?_eq_getElem hj', Option.getD_some]
      exact hb _ (List.getElem_mem hj')
    have b2 := take_bnd (ns.take (j + 1)) fun v hv => hb v (List.mem_of_mem_take hv)
    have b3 : (ns.take (j + 1)).length ≤ 1000 := by rw [List.length_take]; omega
    refine ⟨⟨?_, ?_⟩, ?_, ?_⟩
    · show -(2 ^ 63) ≤ ns.getD j 0; omega
    · show ns.getD j 0 < 2 ^ 63; omega
    · rw [preSum_take ns (j + 1) hj']; omega
    · rw [preSum_take ns (j + 1) hj']; omega
  · intro h' tk t' hk
    have e : preSum (fun i => ns.getD i 0) its.toArray.size = ns.sum := by
      rw [preSum_take ns _ (by simp [hlen]), List.take_of_length_le (by simp [hlen])]
    rw [e]
    refine ⟨.int ns.sum, H, I.kept (t' := tk) fun b o e => hk b o ?_ (Heap.get?_push_of_some _ e), ⟨_, rfl⟩, q⟩
    intro hm
    have : b = s.heap.objs.size := by simpa using hm
    exact absurd (Heap.lt_size e) (by rw [this]; exact Nat.lt_irrefl _)
def smallI (ns : List Int) : Bool := decide (ns.length < 1000) && ns.all fun v => decide (0 ≤ v ∧ v < 1000)
def gSumT (r : R) (st : Store) : Out R := match r with
  | .v (.tup xs) => match xs.mapM D.asI with
    | some ns => if smallI ns = true then .ok (.v (.int ns.sum)) st else .stuck
    | none => .stuck
  | _ => .stuck
theorem cr1_sumT {X : Cx} : Cr1 X (rSumT X.K) gSumT := by
  intro W σ H H0 φ st ra x Q s rx h
  unfold gSumT at h
  split at h
  · rename_i xs
    split at h
    · rename_i ns e
      split at h
      · rename_i c
        obtain ⟨a, vs, rfl, q, t⟩ := tup_ok rx
        obtain ⟨e1, _⟩ := asI_ok t e
        subst e1
        unfold smallI at c
        rw [Bool.and_eq_true, List.all_eq_true] at c
        exact ⟨a, ns, rfl, SqT.of q, ⟨of_decide_eq_true c.1, fun v hv => of_decide_eq_true (c.2 v hv)⟩, of_val (M := X.md) s (.int _) h⟩
      · exact h.elim
    · exact h.elim
  · exact h.elim
theorem cSum {X : Cx} {W : WX} {p pos : Pos} {a : Expr} {fa : FE} (hc : X.calm = true) (hg : Gl X "sum") (hm : X.mg "sum" = none) (ha : SE X W a fa) (he : starEach (a :: []) X.env = (false, eval a X.env) :: starEach [] X.env := by rfl) (hpl : (backTo pos (starEach [] X.env)).any (·.1) = false := by rfl) :
    SE X W (.Call (.Name "sum" p) [a] [] pos) (fCall1 gSumT fa) := se_callB (cr_sumT hc) cr1_sumT hg hm (by decide +kernel) ha (by decide) (by decide) he hpl
end Fx

set_option Elab.async false
set_option linter.all false
set_option maxRecDepth 100000
set_option maxHeartbeats 4000000
set_option autoImplicit false
namespace K41
open PySem PySem.Spec PyProof.Rows L2 Fx
/-! ### the text: the defs of the row's top -/
def top (i : Nat) : Stmt := PySem.Challenge.pw_singlegates_k41_whole_gates_beside_all_r.main.body.getD i (.Pass ⟨0, 0, 0, 0⟩)
abbrev FnP (K : PySem.W.Frag) (x : Str) (st : Stmt) (f : Addr) (fd : FuncData) : Prop := FunD K x x (defArgs st) (defBody st) (defScope st) [] [] f fd
abbrev s_nexts : Stmt := top 1
abbrev N_nexts : List Str := ["net", "station", "line"]
theorem sc_nexts : FnScope N_nexts ["net", "station"] (defScope s_nexts) := ⟨rfl, rfl, rfl, by decide +kernel, rfl, by decide +kernel, by decide +kernel⟩
abbrev s_reach : Stmt := top 3
abbrev N_reach : List Str := ["net", "station", "found", "waiting", "other"]
theorem sc_reach : FnScope N_reach ["net", "station"] (defScope s_reach) := ⟨rfl, rfl, rfl, by decide +kernel, rfl, by decide +kernel, by decide +kernel⟩
abbrev s_bare_at : Stmt := top 5
abbrev N_bare_at : List Str := ["net", "station", "line"]
theorem sc_bare_at : FnScope N_bare_at ["net", "station"] (defScope s_bare_at) := ⟨rfl, rfl, rfl, by decide +kernel, rfl, by decide +kernel, by decide +kernel⟩
abbrev s_gates : Stmt := top 6
abbrev N_gates : List Str := ["net", "station", "found", "other"]
theorem sc_gates : FnScope N_gates ["net", "station"] (defScope s_gates) := ⟨rfl, rfl, rfl, by decide +kernel, rfl, by decide +kernel, by decide +kernel⟩
abbrev s_law_bag : Stmt := top 8
abbrev N_law_bag : List Str := ["script", "mixed", "cell"]
theorem sc_law_bag : FnScope N_law_bag ["script"] (defScope s_law_bag) := ⟨rfl, rfl, rfl, by decide +kernel, rfl, by decide +kernel, by decide +kernel⟩
abbrev s_law_draw : Stmt := top 9
abbrev N_law_draw : List Str := ["bag", "many", "one", "whole"]
theorem sc_law_draw : FnScope N_law_draw ["bag", "many"] (defScope s_law_draw) := ⟨rfl, rfl, rfl, by decide +kernel, rfl, by decide +kernel, by decide +kernel⟩
abbrev s_law_pick : Stmt := top 10
abbrev N_law_pick : List Str := ["bag", "items"]
theorem sc_law_pick : FnScope N_law_pick ["bag", "items"] (defScope s_law_pick) := ⟨rfl, rfl, rfl, by decide +kernel, rfl, by decide +kernel, by decide +kernel⟩
abbrev s_law_mixed : Stmt := top 11
abbrev N_law_mixed : List Str := ["bag", "items", "left", "found"]
theorem sc_law_mixed : FnScope N_law_mixed ["bag", "items"] (defScope s_law_mixed) := ⟨rfl, rfl, rfl, by decide +kernel, rfl, by decide +kernel, by decide +kernel⟩
abbrev s_law_pairs : Stmt := top 12
abbrev N_law_pairs : List Str := ["size", "k"]
theorem sc_law_pairs : FnScope N_law_pairs ["size"] (defScope s_law_pairs) := ⟨rfl, rfl, rfl, by decide +kernel, rfl, by decide +kernel, by decide +kernel⟩
abbrev s_law_ring : Stmt := top 13
abbrev N_law_ring : List Str := ["order", "pair"]
theorem sc_law_ring : FnScope N_law_ring ["order"] (defScope s_law_ring) := ⟨rfl, rfl, rfl, by decide +kernel, rfl, by decide +kernel, by decide +kernel⟩
abbrev s_law_lines : Stmt := top 14
abbrev N_law_lines : List Str := ["bag", "size", "more", "pairs", "order", "way", "lines", "cut", "part", "turn", "pair"]
theorem sc_law_lines : FnScope N_law_lines ["bag", "size"] (defScope s_law_lines) := ⟨rfl, rfl, rfl, by decide +kernel, rfl, by decide +kernel, by decide +kernel⟩
abbrev s_law_net : Stmt := top 15
abbrev N_law_net : List Str := ["bag", "fewest", "most", "size", "tracks", "station"]
theorem sc_law_net : FnScope N_law_net ["bag", "fewest", "most"] (defScope s_law_net) := ⟨rfl, rfl, rfl, by decide +kernel, rfl, by decide +kernel, by decide +kernel⟩
abbrev s_law_out : Stmt := top 16
abbrev N_law_out : List Str := ["net", "found", "origin", "target", "station"]
theorem sc_law_out : FnScope N_law_out ["net"] (defScope s_law_out) := ⟨rfl, rfl, rfl, by decide +kernel, rfl, by decide +kernel, by decide +kernel⟩
abbrev s_law_all_rounds : Stmt := top 17
abbrev N_law_all_rounds : List Str := ["net", "first", "out", "found", "rows", "row", "station"]
theorem sc_law_all_rounds : FnScope N_law_all_rounds ["net"] (defScope s_law_all_rounds) := ⟨rfl, rfl, rfl, by decide +kernel, rfl, by decide +kernel, by decide +kernel⟩
abbrev s_law_come : Stmt := top 18
abbrev N_law_come : List Str := ["out", "first", "barred", "found", "wave", "fresh", "station", "other"]
theorem sc_law_come : FnScope N_law_come ["out", "first", "barred"] (defScope s_law_come) := ⟨rfl, rfl, rfl, by decide +kernel, rfl, by decide +kernel, by decide +kernel⟩
abbrev s_law_gates : Stmt := top 19
abbrev N_law_gates : List Str := ["net", "station", "out", "other"]
theorem sc_law_gates : FnScope N_law_gates ["net", "station"] (defScope s_law_gates) := ⟨rfl, rfl, rfl, by decide +kernel, rfl, by decide +kernel, by decide +kernel⟩
abbrev s_law_due : Stmt := top 20
abbrev N_law_due : List Str := ["net", "found", "station", "mine", "others", "row", "other"]
theorem sc_law_due : FnScope N_law_due ["net", "found", "station"] (defScope s_law_due) := ⟨rfl, rfl, rfl, by decide +kernel, rfl, by decide +kernel, by decide +kernel⟩
abbrev s_law_is_right : Stmt := top 21
abbrev N_law_is_right : List Str := ["bag", "net", "is_named", "same", "station", "found", "known", "due", "told", "tracks"]
theorem sc_law_is_right : FnScope N_law_is_right ["bag", "net", "is_named"] (defScope s_law_is_right) := ⟨rfl, rfl, rfl, by decide +kernel, rfl, by decide +kernel, by decide +kernel⟩
abbrev s_law_is_far_right : Stmt := top 22
abbrev N_law_is_far_right : List Str := ["bag", "net", "station"]
theorem sc_law_is_far_right : FnScope N_law_is_far_right ["bag"] (defScope s_law_is_far_right) := ⟨rfl, rfl, rfl, by decide +kernel, rfl, by decide +kernel, by decide +kernel⟩
abbrev s_law : Stmt := top 23
abbrev N_law : List Str := ["script", "bag", "turn", "net"]
theorem sc_law : FnScope N_law ["script"] (defScope s_law) := ⟨rfl, rfl, rfl, by decide +kernel, rfl, by decide +kernel, by decide +kernel⟩
/-! ### what they do -/
noncomputable def B_nexts : FS := (fRet (fCall1 gTuple (fComp (fIt (fBin gIx (fName 0) (fC (.int 1)))) (tgN 2) (fTrue (fBin gEq (fBin gIx (fName 2) (fC (.int 0))) (fName 1))) (fBin gIx (fName 2) (fC (.int 1))) [2])))
noncomputable def F_nexts : FF := mkF 3 B_nexts
noncomputable def B_bare_at : FS := (fRet (fTup (fCons (fBin gIx (fName 0) (fC (.int 0))) (fCons (fCall1 gTuple (fComp (fIt (fBin gIx (fName 0) (fC (.int 1)))) (tgN 2) (fTrue (fBin gNotIn (fName 1) (fName 2))) (fName 2) [2])) fNil))))
noncomputable def F_bare_at : FF := mkF 3 B_bare_at
noncomputable def L_law_bag_1 : FS := (fSet 1 (fBin gMod (fCall1 gInt (fBin gAdd (fBin gAdd (fBin gMul (fName 1) (fC (.int 69621))) (fBin gMul (fC (.int 3)) (fName 2))) (fC (.int 1)))) (fC (.int 2147483629))))
noncomputable def B_law_bag : FS := (fSeq (fSet 1 (fBin gAdd (fC (.int 71993)) (fBin gMul (fC (.int 29)) (fCall1 gLen (fSl (fName 0) fNo (fPart (fC (.int 60)))))))) (fSeq (fFor (fIt (fSl (fName 0) fNo (fPart (fC (.int 60))))) (tgN 2) L_law_bag_1) (fRet (fDisp [((fC (.str "far")), (fComp (fIt (fSl (fName 0) fNo (fPart (fC (.int 60))))) (tgN 2) (fTrue (fBin gGt (fCall1 gAbs (fName 2)) (fBin gPow (fC (.int 10)) (fC (.int 12))))) (fCall1 gAbs (fName 2)) [2])), ((fC (.str "mixed")), (fName 1)), ((fC (.str "turn")), (fC (.int 0)))]))))
noncomputable def F_law_bag : FF := mkF 3 B_law_bag
noncomputable def W_law_draw_1 : FS := (fExpr (fMeth0 gPop (fBin gIx (fName 0) (fC (.str "far")))))
noncomputable def B_law_draw : FS := (fSeq (fWhile (fAnd (fTrue (fBin gNe (fBin gIx (fName 0) (fC (.str "far"))) (fLst fNil))) (fTrue (fBin gEq (fBin gIx (fBin gIx (fName 0) (fC (.str "far"))) (fNeg (fC (.int 1)))) (fC (.int 0))))) W_law_draw_1) (fSeq (fIfS (fTrue (fBin gNe (fBin gIx (fName 0) (fC (.str "far"))) (fLst fNil))) (fSeq (fSet 3 (fMeth0 gPop (fBin gIx (fName 0) (fC (.str "far"))))) (fSeq (fExpr (fMeth1 gAppend (fBin gIx (fName 0) (fC (.str "far"))) (fBin gDiv (fName 3) (fName 1)))) (fRet (fCall1 gInt (fBin gMod (fName 3) (fName 1)))))) fSkip) (fSeq (fPut (fBin gAdd (fBin gIx (fName 0) (fC (.str "turn"))) (fC (.int 1))) (fName 0) (fC (.str "turn"))) (fSeq (fSet 2 (fBin gMod (fCall1 gInt (fBin gAdd (fBin gIx (fName 0) (fC (.str "mixed"))) (fBin gMul (fBin gIx (fName 0) (fC (.str "turn"))) (fC (.int 40503))))) (fC (.int 2147483587)))) (fSeq (fSet 2 (fBin gMod (fCall1 gInt (fBin gAdd (fBin gAdd (fBin gMul (fName 2) (fName 2)) (fBin gMul (fBin gIx (fName 0) (fC (.str "turn"))) (fC (.int 16807)))) (fC (.int 7)))) (fC (.int 2147483629)))) (fRet (fBin gMod (fCall1 gInt (fBin gDiv (fBin gMod (fCall1 gInt (fBin gAdd (fBin gMul (fName 2) (fC (.int 48271))) (fBin gIx (fName 0) (fC (.str "mixed"))))) (fC (.int 2147483563))) (fC (.int 128)))) (fName 1))))))))
noncomputable def F_law_draw : FF := mkF 4 B_law_draw
noncomputable def B_law_pairs : FS := (fRet (fComp (fRng1 (fBin gMul (fName 0) (fName 0))) (tgN 1) (fTrue (fBin gNe (fBin gDiv (fCall1 gInt (fName 1)) (fName 0)) (fBin gMod (fCall1 gInt (fName 1)) (fName 0)))) (fTup (fCons (fBin gDiv (fCall1 gInt (fName 1)) (fName 0)) (fCons (fBin gMod (fCall1 gInt (fName 1)) (fName 0)) fNil))) [1]))
noncomputable def F_law_pairs : FF := mkF 2 B_law_pairs
noncomputable def B_law_ring : FS := (fRet (fComp (fZip (fCons (fName 0) (fCons (fBin gAdd (fSl (fName 0) (fPart (fC (.int 1))) fNo) (fSl (fName 0) fNo (fPart (fC (.int 1))))) fNil))) (tgN 1) (fTrue (fBin gNe (fBin gIx (fName 1) (fC (.int 0))) (fBin gIx (fName 1) (fC (.int 1))))) (fName 1) [1]))
noncomputable def F_law_ring : FF := mkF 2 B_law_ring
noncomputable def L_law_out_1 : FS := (fExpr (fMeth1 gAppend (fBin gIx (fName 1) (fName 2)) (fName 3)))
noncomputable def B_law_out : FS := (fSeq (fSet 1 (fComp (fIt (fBin gIx (fName 0) (fC (.int 0)))) (tgN 4) fYes (fLst fNil) [4])) (fSeq (fFor (fIt (fBin gIx (fName 0) (fC (.int 1)))) (tgT (tgCons (tgN 2) (tgCons (tgN 3) tgNil))) L_law_out_1) (fRet (fName 1))))
noncomputable def F_law_out : FF := mkF 5 B_law_out
noncomputable def L_law_come_1 : FS := (fIfS (fAnd (fTrue (fBin gNe (fName 7) (fName 2))) (fTrue (fBin gNotIn (fName 7) (fName 3)))) (fSeq (fExpr (fMeth1 gAppend (fName 3) (fName 7))) (fExpr (fMeth1 gAppend (fName 5) (fName 7)))) fSkip)
noncomputable def L_law_come_2 : FS := (fFor (fIt (fBin gIx (fName 0) (fName 6))) (tgN 7) L_law_come_1)
noncomputable def W_law_come_1 : FS := (fSeq (fSet 5 (fLst fNil)) (fSeq (fFor (fIt (fName 4)) (tgN 6) L_law_come_2) (fSet 4 (fName 5))))
noncomputable def B_law_come : FS := (fSeq (fPar 3 4 (fCons (fLst fNil) (fCons (fLst (fCons (fName 1) fNil)) fNil))) (fSeq (fWhile (fTrue (fBin gNe (fName 4) (fLst fNil))) W_law_come_1) (fRet (fName 3))))
noncomputable def F_law_come : FF := mkF 8 B_law_come
noncomputable def B_law_due : FS := (fSeq (fSet 3 (fComp (fIt (fName 1)) (tgN 5) (fTrue (fBin gIn (fName 2) (fName 5))) (fName 5) [5])) (fSeq (fIfS (fTrue (fBin gEq (fName 3) (fLst fNil))) (fRet (fC .non)) fSkip) (fSeq (fSet 4 (fComp (fRng1 (fCall1 gLen (fBin gIx (fName 0) (fC (.int 0))))) (tgN 6) (fTrue (fBin gNe (fName 6) (fName 2))) (fName 6) [6])) (fRet (fCall1 gTuple (fComp (fIt (fName 4)) (tgN 6) (fTrue (fBin gEq (fComp (fIt (fName 3)) (tgN 5) (fTrue (fBin gNotIn (fName 6) (fName 5))) (fC (.int 1)) [5]) (fLst fNil))) (fName 6) [6]))))))
noncomputable def F_law_due : FF := mkF 7 B_law_due
noncomputable def L_reach_1 : FS := (fIfS (fTrue (fBin gNotIn (fName 4) (fName 2))) (fSeq (fPut (fC (.bl true)) (fName 2) (fName 4)) (fExpr (fMeth1 gAppend (fName 3) (fName 4)))) fSkip)
noncomputable def W_reach_1 : FS := (fFor (fIt (fCall F_nexts (fCons (fName 0) (fCons (fMeth0 gPop (fName 3)) fNil)))) (tgN 4) L_reach_1)
noncomputable def B_reach : FS := (fSeq (fPar 2 3 (fCons fDK (fCons (fLst (fCons (fName 1) fNil)) fNil))) (fSeq (fWhile (fTrue (fBin gNe (fName 3) (fLst fNil))) W_reach_1) (fRet (fCall1 gTuple (fCall1 gSorted (fName 2))))))
noncomputable def F_reach : FF := mkF 5 B_reach
noncomputable def B_law_pick : FS := (fRet (fBin gIx (fName 1) (fCall F_law_draw (fCons (fName 0) (fCons (fCall1 gLen (fName 1)) fNil)))))
noncomputable def F_law_pick : FF := mkF 2 B_law_pick
noncomputable def W_law_mixed_1 : FS := (fExpr (fMeth1 gAppend (fName 3) (fMeth1 gPopAt (fName 2) (fCall F_law_draw (fCons (fName 0) (fCons (fCall1 gLen (fName 2)) fNil))))))
noncomputable def B_law_mixed : FS := (fSeq (fPar 2 3 (fCons (fCall1 gList (fName 1)) (fCons (fLst fNil) fNil))) (fSeq (fWhile (fTrue (fBin gNe (fName 2) (fLst fNil))) W_law_mixed_1) (fRet (fName 3))))
noncomputable def F_law_mixed : FF := mkF 4 B_law_mixed
noncomputable def L_law_all_rounds_1 : FS := (fSeq (fIfS (fAnd (fTrue (fBin gEq (fName 6) (fName 1))) (fTrue (fBin gGt (fCall1 gLen (fName 5)) (fC (.int 1))))) (fExpr (fMeth1 gAppend (fName 3) (fName 5))) fSkip) (fIfS (fAnd (fTrue (fBin gGt (fName 6) (fName 1))) (fTrue (fBin gNotIn (fName 6) (fName 5)))) (fExpr (fMeth1 gAppend (fName 4) (fBin gAdd (fName 5) (fTup (fCons (fName 6) fNil))))) fSkip))
noncomputable def W_law_all_rounds_1 : FS := (fSeq (fSet 5 (fMeth0 gPop (fName 4))) (fFor (fIt (fBin gIx (fName 2) (fBin gIx (fName 5) (fNeg (fC (.int 1)))))) (tgN 6) L_law_all_rounds_1))
noncomputable def L_law_all_rounds_2 : FS := (fSeq (fSet 4 (fLst (fCons (fTup (fCons (fName 1) fNil)) fNil))) (fWhile (fTrue (fBin gNe (fName 4) (fLst fNil))) W_law_all_rounds_1))
noncomputable def B_law_all_rounds : FS := (fSeq (fPar 2 3 (fCons (fCall F_law_out (fCons (fName 0) fNil)) (fCons (fLst fNil) fNil))) (fSeq (fFor (fRng1 (fCall1 gLen (fName 2))) (tgN 1) L_law_all_rounds_2) (fRet (fName 3))))
noncomputable def F_law_all_rounds : FF := mkF 7 B_law_all_rounds
noncomputable def B_law_gates : FS := (fSeq (fSet 2 (fCall F_law_out (fCons (fName 0) fNil))) (fSeq (fIfS (fTrue (fBin gNotIn (fName 1) (fCall F_law_come (fCons (fName 2) (fCons (fName 1) (fCons (fC .non) fNil)))))) (fRet (fC .non)) fSkip) (fRet (fCall1 gTuple (fComp (fRng1 (fCall1 gLen (fName 2))) (tgN 3) (fAnd (fTrue (fBin gNe (fName 3) (fName 1))) (fTrue (fBin gNotIn (fName 1) (fCall F_law_come (fCons (fName 2) (fCons (fName 1) (fCons (fName 3) fNil))))))) (fName 3) [3])))))
noncomputable def F_law_gates : FF := mkF 4 B_law_gates
noncomputable def L_gates_1 : FS := (fIfS (fAnd (fTrue (fBin gNe (fName 3) (fName 1))) (fTrue (fBin gNotIn (fName 1) (fCall F_reach (fCons (fCall F_bare_at (fCons (fName 0) (fCons (fName 3) fNil))) (fCons (fName 1) fNil)))))) (fExpr (fMeth1 gAppend (fName 2) (fName 3))) fSkip)
noncomputable def B_gates : FS := (fSeq (fIfS (fTrue (fBin gNotIn (fName 1) (fCall F_reach (fCons (fName 0) (fCons (fName 1) fNil))))) (fRet (fC .non)) fSkip) (fSeq (fSet 2 (fLst fNil)) (fSeq (fFor (fRng1 (fCall1 gLen (fBin gIx (fName 0) (fC (.int 0))))) (tgN 3) L_gates_1) (fRet (fCall1 gTuple (fName 2))))))
noncomputable def F_gates : FF := mkF 4 B_gates
noncomputable def B_law_lines : FS := (fSeq (fAsg (tgT (tgCons (tgN 3) (tgCons (tgN 4) (tgCons (tgN 5) tgNil)))) (fTup (fCons (fCall F_law_pairs (fCons (fName 1) fNil)) (fCons (fCall F_law_mixed (fCons (fName 0) (fCons (fListRng1 (fName 1)) fNil))) (fCons (fCall F_law_draw (fCons (fName 0) (fCons (fC (.int 8)) fNil))) fNil))))) (fSeq (fSet 2 (fIf (fTrue (fBin gNe (fName 3) (fLst fNil))) (fComp (fRng1 (fCall F_law_draw (fCons (fName 0) (fCons (fC (.int 3)) fNil)))) (tgN 9) fYes (fCall F_law_pick (fCons (fName 0) (fCons (fName 3) fNil))) [9]) (fLst fNil))) (fSeq (fIfS (fTrue (fBin gEq (fName 5) (fC (.int 0)))) (fSet 6 (fComp (fIt (fName 3)) (tgN 10) (fAnd (fTrue (fBin gLt (fBin gIx (fName 10) (fC (.int 0))) (fBin gIx (fName 10) (fC (.int 1))))) (fTrue (fBin gEq (fCall F_law_draw (fCons (fName 0) (fCons (fC (.int 2)) fNil))) (fC (.int 0))))) (fName 10) [10])) (fIfS (fTrue (fBin gEq (fName 5) (fC (.int 1)))) (fSet 6 (fBin gAdd (fBin gAdd (fListZip (fCons (fName 4) (fCons (fSl (fName 4) (fPart (fC (.int 1))) fNo) fNil))) (fListZip (fCons (fSl (fName 4) (fPart (fC (.int 1))) fNo) (fCons (fName 4) fNil)))) (fName 2))) (fIfS (fTrue (fBin gEq (fName 5) (fC (.int 2)))) (fSet 6 (fBin gAdd (fCall F_law_ring (fCons (fName 4) fNil)) (fName 2))) (fIfS (fTrue (fBin gEq (fName 5) (fC (.int 3)))) (fSeq (fSet 7 (fBin gAdd (fC (.int 1)) (fCall F_law_draw (fCons (fName 0) (fCons (fName 1) fNil))))) (fSet 6 (fBin gAdd (fBin gAdd (fCall F_law_ring (fCons (fSl (fName 4) fNo (fPart (fName 7))) fNil)) (fCall F_law_ring (fCons (fSl (fName 4) (fPart (fBin gSub (fName 7) (fC (.int 1)))) fNo) fNil))) (fName 2)))) (fIfS (fTrue (fBin gLt (fName 1) (fC (.int 6)))) (fSeq (fSet 8 (fCall F_law_pick (fCons (fName 0) (fCons (fLst (fCons (fC (.int 1)) (fCons (fC (.int 2)) (fCons (fC (.int 2)) (fCons (fC (.int 3)) (fCons (fC (.int 6)) fNil)))))) fNil)))) (fSet 6 (fComp (fIt (fName 3)) (tgN 10) (fTrue (fBin gLt (fCall F_law_draw (fCons (fName 0) (fCons (fC (.int 6)) fNil))) (fName 8))) (fName 10) [10]))) (fSet 6 (fComp (fRng1 (fBin gAdd (fC (.int 5)) (fCall F_law_draw (fCons (fName 0) (fCons (fIf (fTrue (fBin gEq (fName 1) (fC (.int 6)))) (fC (.int 8)) (fC (.int 16))) fNil))))) (tgN 9) fYes (fCall F_law_pick (fCons (fName 0) (fCons (fName 3) fNil))) [9]))))))) (fRet (fCall1 gTuple (fCall1 gSorted (fCall1 gSetT (fName 6))))))))
noncomputable def F_law_lines : FF := mkF 11 B_law_lines
noncomputable def B_law_net : FS := (fSeq (fSet 3 (fBin gAdd (fName 1) (fCall F_law_draw (fCons (fName 0) (fCons (fBin gAdd (fBin gSub (fName 2) (fName 1)) (fC (.int 1))) fNil))))) (fSeq (fSet 4 (fCall1 gTuple (fComp (fRng1 (fName 3)) (tgN 5) fYes (fCall F_law_pick (fCons (fName 0) (fCons (fLst (fCons (fC (.int 1)) (fCons (fC (.int 1)) (fCons (fC (.int 1)) (fCons (fC (.int 2)) (fCons (fC (.int 2)) (fCons (fC (.int 3)) (fCons (fC (.int 4)) fNil)))))))) fNil))) [5]))) (fRet (fTup (fCons (fName 4) (fCons (fCall F_law_lines (fCons (fName 0) (fCons (fName 3) fNil))) fNil))))))
noncomputable def F_law_net : FF := mkF 6 B_law_net
noncomputable def L_law_is_right_1 : FS := (fSeq (fSet 7 (fCall F_law_due (fCons (fName 1) (fCons (fName 5) (fCons (fName 4) fNil))))) (fSeq (fSet 8 (fIf (fTrue (fName 2)) (fCallK F_gates [1, 0] (fCons (fName 4) (fCons (fName 1) fNil))) (fCall F_gates (fCons (fName 1) (fCons (fName 4) fNil))))) (fIfS (fOr (fTrue (fBin gNe (fCall1 gRepr (fLst (fCons (fName 8) (fCons (fCall F_gates (fCons (fName 3) (fCons (fName 4) fNil))) fNil)))) (fCall1 gRepr (fLst (fCons (fName 7) (fCons (fName 7) fNil)))))) (fTrue (fBin gNe (fCall1 gRepr (fCall F_law_gates (fCons (fName 1) (fCons (fName 4) fNil)))) (fCall1 gRepr (fName 7))))) (fRet (fC (.bl false))) fSkip)))
noncomputable def B_law_is_right : FS := (fSeq (fPar 5 6 (fCons (fCall F_law_all_rounds (fCons (fName 1) fNil)) (fCons (fCall1 gRepr (fName 1)) fNil))) (fSeq (fSet 3 (fTup (fCons (fCall1 gTuple (fComp (fIt (fBin gIx (fName 1) (fC (.int 0)))) (tgN 9) fYes (fBin gAdd (fC (.int 1)) (fCall F_law_draw (fCons (fName 0) (fCons (fC (.int 4)) fNil)))) [9])) (fCons (fBin gIx (fName 1) (fC (.int 1))) fNil)))) (fSeq (fFor (fRng1 (fCall1 gLen (fBin gIx (fName 1) (fC (.int 0))))) (tgN 4) L_law_is_right_1) (fSeq (fSet 4 (fCall F_law_draw (fCons (fName 0) (fCons (fCall1 gLen (fBin gIx (fName 1) (fC (.int 0)))) fNil)))) (fRet (fAndV (fBin gEq (fCall1 gRepr (fCall F_gates (fCons (fName 1) (fCons (fName 4) fNil)))) (fCall1 gRepr (fCall F_law_due (fCons (fName 1) (fCons (fName 5) (fCons (fName 4) fNil)))))) (fBin gEq (fCall1 gRepr (fName 1)) (fName 6))))))))
noncomputable def F_law_is_right : FF := mkF 10 B_law_is_right
noncomputable def L_law_is_far_right_1 : FS := (fIfS (fTrue (fBin gNe (fCall1 gRepr (fCall F_gates (fCons (fName 1) (fCons (fName 2) fNil)))) (fCall1 gRepr (fCall F_law_gates (fCons (fName 1) (fCons (fName 2) fNil)))))) (fRet (fC (.bl false))) fSkip)
noncomputable def B_law_is_far_right : FS := (fSeq (fSet 1 (fCall F_law_net (fCons (fName 0) (fCons (fC (.int 7)) (fCons (fC (.int 10)) fNil))))) (fSeq (fFor (fIt (fSl (fCall F_law_mixed (fCons (fName 0) (fCons (fListRng1 (fCall1 gLen (fBin gIx (fName 1) (fC (.int 0))))) fNil))) fNo (fPart (fC (.int 3))))) (tgN 2) L_law_is_far_right_1) (fRet (fC (.bl true)))))
noncomputable def F_law_is_far_right : FF := mkF 3 B_law_is_far_right
noncomputable def L_law_1 : FS := (fSeq (fSet 3 (fCall F_law_net (fCons (fName 1) (fCons (fBin gAdd (fC (.int 1)) (fName 2)) (fCons (fBin gIx (fLst (fCons (fC (.int 3)) (fCons (fC (.int 4)) (fCons (fC (.int 6)) (fCons (fC (.int 5)) fNil))))) (fName 2)) fNil))))) (fIfS (fNot (fTrue (fCall F_law_is_right (fCons (fName 1) (fCons (fName 3) (fCons (fBin gEq (fName 2) (fC (.int 2))) fNil)))))) (fRet (fC (.bl false))) fSkip))
noncomputable def B_law : FS := (fSeq (fSet 1 (fCall F_law_bag (fCons (fName 0) fNil))) (fSeq (fIfS (fNot (fTrue (fCall F_law_is_far_right (fCons (fName 1) fNil)))) (fRet (fC (.bl false))) fSkip) (fSeq (fFor (fRng1 (fC (.int 4))) (tgN 2) L_law_1) (fRet (fC (.bl true))))))
noncomputable def F_law : FF := mkF 4 B_law
end K41

set_option Elab.async false
set_option linter.all false
set_option maxRecDepth 100000
set_option maxHeartbeats 4000000
set_option autoImplicit false
namespace K41
open PySem PySem.Spec PyProof.Rows L2 Fx
/-! ### they do it -/
structure Tx (P : Program) (w : World) (K : PySem.W.Frag) (mg : Str → Option Value) (base : Heap) where
  f_nexts : Addr
  fd_nexts : FuncData
  D_nexts : FnP K "nexts" s_nexts f_nexts fd_nexts
  g_nexts : mg "nexts" = some (.ref f_nexts)
  b_nexts : Binds K fd_nexts ["net", "station"] []
  f_reach : Addr
  fd_reach : FuncData
  D_reach : FnP K "reach" s_reach f_reach fd_reach
  g_reach : mg "reach" = some (.ref f_reach)
  b_reach : Binds K fd_reach ["net", "station"] []
  f_bare_at : Addr
  fd_bare_at : FuncData
  D_bare_at : FnP K "bare_at" s_bare_at f_bare_at fd_bare_at
  g_bare_at : mg "bare_at" = some (.ref f_bare_at)
  b_bare_at : Binds K fd_bare_at ["net", "station"] []
  f_gates : Addr
  fd_gates : FuncData
  D_gates : FnP K "gates" s_gates f_gates fd_gates
  g_gates : mg "gates" = some (.ref f_gates)
  b_gates : Binds K fd_gates ["net", "station"] []
  f_law_bag : Addr
  fd_law_bag : FuncData
  D_law_bag : FnP K "_law_bag" s_law_bag f_law_bag fd_law_bag
  g_law_bag : mg "_law_bag" = some (.ref f_law_bag)
  b_law_bag : Binds K fd_law_bag ["script"] []
  f_law_draw : Addr
  fd_law_draw : FuncData
  D_law_draw : FnP K "_law_draw" s_law_draw f_law_draw fd_law_draw
  g_law_draw : mg "_law_draw" = some (.ref f_law_draw)
  b_law_draw : Binds K fd_law_draw ["bag", "many"] []
  f_law_pick : Addr
  fd_law_pick : FuncData
  D_law_pick : FnP K "_law_pick" s_law_pick f_law_pick fd_law_pick
  g_law_pick : mg "_law_pick" = some (.ref f_law_pick)
  b_law_pick : Binds K fd_law_pick ["bag", "items"] []
  f_law_mixed : Addr
  fd_law_mixed : FuncData
  D_law_mixed : FnP K "_law_mixed" s_law_mixed f_law_mixed fd_law_mixed
  g_law_mixed : mg "_law_mixed" = some (.ref f_law_mixed)
  b_law_mixed : Binds K fd_law_mixed ["bag", "items"] []
  f_law_pairs : Addr
  fd_law_pairs : FuncData
  D_law_pairs : FnP K "_law_pairs" s_law_pairs f_law_pairs fd_law_pairs
  g_law_pairs : mg "_law_pairs" = some (.ref f_law_pairs)
  b_law_pairs : Binds K fd_law_pairs ["size"] []
  f_law_ring : Addr
  fd_law_ring : FuncData
  D_law_ring : FnP K "_law_ring" s_law_ring f_law_ring fd_law_ring
  g_law_ring : mg "_law_ring" = some (.ref f_law_ring)
  b_law_ring : Binds K fd_law_ring ["order"] []
  f_law_lines : Addr
  fd_law_lines : FuncData
  D_law_lines : FnP K "_law_lines" s_law_lines f_law_lines fd_law_lines
  g_law_lines : mg "_law_lines" = some (.ref f_law_lines)
  b_law_lines : Binds K fd_law_lines ["bag", "size"] []
  f_law_net : Addr
  fd_law_net : FuncData
  D_law_net : FnP K "_law_net" s_law_net f_law_net fd_law_net
  g_law_net : mg "_law_net" = some (.ref f_law_net)
  b_law_net : Binds K fd_law_net ["bag", "fewest", "most"] []
  f_law_out : Addr
  fd_law_out : FuncData
  D_law_out : FnP K "_law_out" s_law_out f_law_out fd_law_out
  g_law_out : mg "_law_out" = some (.ref f_law_out)
  b_law_out : Binds K fd_law_out ["net"] []
  f_law_all_rounds : Addr
  fd_law_all_rounds : FuncData
  D_law_all_rounds : FnP K "_law_all_rounds" s_law_all_rounds f_law_all_rounds fd_law_all_rounds
  g_law_all_rounds : mg "_law_all_rounds" = some (.ref f_law_all_rounds)
  b_law_all_rounds : Binds K fd_law_all_rounds ["net"] []
  f_law_come : Addr
  fd_law_come : FuncData
  D_law_come : FnP K "_law_come" s_law_come f_law_come fd_law_come
  g_law_come : mg "_law_come" = some (.ref f_law_come)
  b_law_come : Binds K fd_law_come ["out", "first", "barred"] []
  f_law_gates : Addr
  fd_law_gates : FuncData
  D_law_gates : FnP K "_law_gates" s_law_gates f_law_gates fd_law_gates
  g_law_gates : mg "_law_gates" = some (.ref f_law_gates)
  b_law_gates : Binds K fd_law_gates ["net", "station"] []
  f_law_due : Addr
  fd_law_due : FuncData
  D_law_due : FnP K "_law_due" s_law_due f_law_due fd_law_due
  g_law_due : mg "_law_due" = some (.ref f_law_due)
  b_law_due : Binds K fd_law_due ["net", "found", "station"] []
  f_law_is_right : Addr
  fd_law_is_right : FuncData
  D_law_is_right : FnP K "_law_is_right" s_law_is_right f_law_is_right fd_law_is_right
  g_law_is_right : mg "_law_is_right" = some (.ref f_law_is_right)
  b_law_is_right : Binds K fd_law_is_right ["bag", "net", "is_named"] []
  f_law_is_far_right : Addr
  fd_law_is_far_right : FuncData
  D_law_is_far_right : FnP K "_law_is_far_right" s_law_is_far_right f_law_is_far_right fd_law_is_far_right
  g_law_is_far_right : mg "_law_is_far_right" = some (.ref f_law_is_far_right)
  b_law_is_far_right : Binds K fd_law_is_far_right ["bag"] []
  f_law : Addr
  fd_law : FuncData
  D_law : FnP K "law" s_law f_law fd_law
  g_law : mg "law" = some (.ref f_law)
  b_law : Binds K fd_law ["script"] []
  k_gates_station_net : ∀ (s : Shared) (us : List Value), us.length = 2 → BindsTo s fd_gates ⟨[], List.zip ["station", "net"] us⟩ (List.zip ["net", "station"] (pick [1, 0] us))
  n_abs : mg "abs" = none
  n_int : mg "int" = none
  n_len : mg "len" = none
  n_list : mg "list" = none
  n_range : mg "range" = none
  n_repr : mg "repr" = none
  n_set : mg "set" = none
  n_sorted : mg "sorted" = none
  n_tuple : mg "tuple" = none
  n_zip : mg "zip" = none
theorem pickLen_gates_station_net : ∀ vs : List V, vs.length = 2 → (pick [1, 0] vs).length = 2
  | [a0, a1], _ => rfl
section
variable {P : Program} {w : World} {K : PySem.W.Frag} {mg : Str → Option Value} {base : Heap}
theorem ok_nexts (T : Tx P w K mg base) : FnG P w K mg base 1 T.f_nexts T.fd_nexts ["net", "station"] F_nexts := by
  refine fnG_of T.D_nexts sc_nexts fun cdv A outer s H E B => ?_
  have C := B.cd
  have tk := B.tk
  have hr := B.rm
  have hp := B.pa
  exact (sss_one (ss_ret (cTuple rfl T.n_tuple (se_comp C.hc sc_nexts.nd (si_seq (ix C (nv 0) se_int)) (blkOk_by (own := [("line", 2)]) (N := N_nexts) (sc := defScope s_nexts) (by decide +kernel)) (fun _ _ _ _ _ => (sc_name (i := 2) sc_nexts.nd rfl (by first | exact Or.inl rfl | exact Or.inr rfl) (by decide))) (fun _ _ _ _ _ => (sts_one (tEq (Cd.blk C) (ix (Cd.blk C) (nv 2) se_int) (nv 1)))) (fun _ _ _ _ _ => (ix (Cd.blk C) (nv 2) se_int))))))
theorem ok_bare_at (T : Tx P w K mg base) : FnG P w K mg base 1 T.f_bare_at T.fd_bare_at ["net", "station"] F_bare_at := by
  refine fnG_of T.D_bare_at sc_bare_at fun cdv A outer s H E B => ?_
  have C := B.cd
  have tk := B.tk
  have hr := B.rm
  have hp := B.pa
  exact (sss_one (ss_ret (se_tup (sa_cons (ix C (nv 0) se_int) (sa_cons (cTuple rfl T.n_tuple (se_comp C.hc sc_bare_at.nd (si_seq (ix C (nv 0) se_int)) (blkOk_by (own := [("line", 2)]) (N := N_bare_at) (sc := defScope s_bare_at) (by decide +kernel)) (fun _ _ _ _ _ => (sc_name (i := 2) sc_bare_at.nd rfl (by first | exact Or.inl rfl | exact Or.inr rfl) (by decide))) (fun _ _ _ _ _ => (sts_one (tNotIn (Cd.blk C) (nv 1) (nv 2)))) (fun _ _ _ _ _ => (nv 2)))) sa_nil)))))
theorem ok_law_bag (T : Tx P w K mg base) : FnG P w K mg base 1 T.f_law_bag T.fd_law_bag ["script"] F_law_bag := by
  refine fnG_of T.D_law_bag sc_law_bag fun cdv A outer s H E B => ?_
  have C := B.cd
  have tk := B.tk
  have hr := B.rm
  have hp := B.pa
  exact (sss_cons (ss_set (i := 1) sc_law_bag.nd rfl (by first | exact Or.inl rfl | exact Or.inr rfl) (bAdd se_int (bMul se_int (cLen rfl T.n_len (se_sl (nv 0) so_none (so_some se_int)))))) (sss_cons (ss_for hp C.hc (si_seq (se_sl (nv 0) so_none (so_some se_int))) (sg_name (i := 2) sc_law_bag.nd rfl (by first | exact Or.inl rfl | exact Or.inr rfl)) (sss_one (ss_set (i := 1) sc_law_bag.nd rfl (by first | exact Or.inl rfl | exact Or.inr rfl) (bMod (cInt rfl T.n_int (bAdd (bAdd (bMul (nv 1) se_int) (bMul se_int (nv 2))) se_int)) se_int)))) (sss_one (ss_ret (se_disp (sps_cons se_str (se_comp C.hc sc_law_bag.nd (si_seq (se_sl (nv 0) so_none (so_some se_int))) (blkOk_by (own := [("cell", 2)]) (N := N_law_bag) (sc := defScope s_law_bag) (by decide +kernel)) (fun _ _ _ _ _ => (sc_name (i := 2) sc_law_bag.nd rfl (by first | exact Or.inl rfl | exact Or.inr rfl) (by decide))) (fun _ _ _ _ _ => (sts_one (tGt (cAbs rfl T.n_abs (nv 2)) (bPow se_int se_int)))) (fun _ _ _ _ _ => (cAbs rfl T.n_abs (nv 2)))) (sps_cons se_str (nv 1) (sps_cons se_str se_int sps_nil))))))))
theorem ok_law_draw (T : Tx P w K mg base) : FnG P w K mg base 1 T.f_law_draw T.fd_law_draw ["bag", "many"] F_law_draw := by
  refine fnG_of T.D_law_draw sc_law_draw fun cdv A outer s H E B => ?_
  have C := B.cd
  have tk := B.tk
  have hr := B.rm
  have hp := B.pa
  exact (sss_cons (ss_while hp (sb_w (sbw_and (tNe C (ix C (nv 0) se_str) (se_lst sa_nil)) (sbw_and1 (tEq C (ix C (ix C (nv 0) se_str) (se_neg se_int)) se_int)))) (sss_one (ss_expr (se_pop (ix C (nv 0) se_str))))) (sss_cons (ss_if (tNe C (ix C (nv 0) se_str) (se_lst sa_nil)) (sss_cons (ss_set (i := 3) sc_law_draw.nd rfl (by first | exact Or.inl rfl | exact Or.inr rfl) (se_pop (ix C (nv 0) se_str))) (sss_cons (ss_expr (se_append (ix C (nv 0) se_str) (bDiv (nv 3) (nv 1)))) (sss_one (ss_ret (cInt rfl T.n_int (bMod (nv 3) (nv 1))))))) sss_nil) (sss_cons (ss_put C (bAdd (ix C (nv 0) se_str) se_int) (nv 0) se_str (by intro _; rfl)) (sss_cons (ss_set (i := 2) sc_law_draw.nd rfl (by first | exact Or.inl rfl | exact Or.inr rfl) (bMod (cInt rfl T.n_int (bAdd (ix C (nv 0) se_str) (bMul (ix C (nv 0) se_str) se_int))) se_int)) (sss_cons (ss_set (i := 2) sc_law_draw.nd rfl (by first | exact Or.inl rfl | exact Or.inr rfl) (bMod (cInt rfl T.n_int (bAdd (bAdd (bMul (nv 2) (nv 2)) (bMul (ix C (nv 0) se_str) se_int)) se_int)) se_int)) (sss_one (ss_ret (bMod (cInt rfl T.n_int (bDiv (bMod (cInt rfl T.n_int (bAdd (bMul (nv 2) se_int) (ix C (nv 0) se_str))) se_int) se_int)) (nv 1)))))))))
theorem ok_law_pairs (T : Tx P w K mg base) : FnG P w K mg base 1 T.f_law_pairs T.fd_law_pairs ["size"] F_law_pairs := by
  refine fnG_of T.D_law_pairs sc_law_pairs fun cdv A outer s H E B => ?_
  have C := B.cd
  have tk := B.tk
  have hr := B.rm
  have hp := B.pa
  exact (sss_one (ss_ret (se_comp C.hc sc_law_pairs.nd (si_rng1 rfl T.n_range (by exact (bMul (nv 0) (nv 0)))) (blkOk_by (own := [("k", 1)]) (N := N_law_pairs) (sc := defScope s_law_pairs) (by decide +kernel)) (fun _ _ _ _ _ => (sc_name (i := 1) sc_law_pairs.nd rfl (by first | exact Or.inl rfl | exact Or.inr rfl) (by decide))) (fun _ _ _ _ _ => (sts_one (tNe (Cd.blk C) (bDiv (cInt rfl T.n_int (nv 1)) (nv 0)) (bMod (cInt rfl T.n_int (nv 1)) (nv 0))))) (fun _ _ _ _ _ => (se_tup (sa_cons (bDiv (cInt rfl T.n_int (nv 1)) (nv 0)) (sa_cons (bMod (cInt rfl T.n_int (nv 1)) (nv 0)) sa_nil)))))))
theorem ok_law_ring (T : Tx P w K mg base) : FnG P w K mg base 1 T.f_law_ring T.fd_law_ring ["order"] F_law_ring := by
  refine fnG_of T.D_law_ring sc_law_ring fun cdv A outer s H E B => ?_
  have C := B.cd
  have tk := B.tk
  have hr := B.rm
  have hp := B.pa
  exact (sss_one (ss_ret (se_comp C.hc sc_law_ring.nd (si_zip rfl T.n_zip (sa_cons (nv 0) (sa_cons (bAdd (se_sl (nv 0) (so_some se_int) so_none) (se_sl (nv 0) so_none (so_some se_int))) sa_nil))) (blkOk_by (own := [("pair", 1)]) (N := N_law_ring) (sc := defScope s_law_ring) (by decide +kernel)) (fun _ _ _ _ _ => (sc_name (i := 1) sc_law_ring.nd rfl (by first | exact Or.inl rfl | exact Or.inr rfl) (by decide))) (fun _ _ _ _ _ => (sts_one (tNe (Cd.blk C) (ix (Cd.blk C) (nv 1) se_int) (ix (Cd.blk C) (nv 1) se_int)))) (fun _ _ _ _ _ => (nv 1)))))
theorem ok_law_out (T : Tx P w K mg base) : FnG P w K mg base 1 T.f_law_out T.fd_law_out ["net"] F_law_out := by
  refine fnG_of T.D_law_out sc_law_out fun cdv A outer s H E B => ?_
  have C := B.cd
  have tk := B.tk
  have hr := B.rm
  have hp := B.pa
  exact (sss_cons (ss_setComp (i := 1) C.hc sc_law_out.nd rfl rfl rfl (si_seq (ix C (nv 0) se_int)) (blkOk_by (own := [("station", 4)]) (N := N_law_out) (sc := defScope s_law_out) (by decide +kernel)) (fun _ _ _ _ _ => (sc_name (i := 4) sc_law_out.nd rfl (by first | exact Or.inl rfl | exact Or.inr rfl) (by decide))) (fun _ _ _ _ _ => sts_nil) (fun _ _ _ _ _ => (se_lst sa_nil))) (sss_cons (ss_for hp C.hc (si_seq (ix C (nv 0) se_int)) (sg_tup C.hc (sgs_cons (sg_name (i := 2) sc_law_out.nd rfl (by first | exact Or.inl rfl | exact Or.inr rfl)) (sgs_cons (sg_name (i := 3) sc_law_out.nd rfl (by first | exact Or.inl rfl | exact Or.inr rfl)) sgs_nil)) (len_cons (len_cons len_nil))) (sss_one (ss_expr (se_append (ix C (nv 1) (nv 2)) (nv 3))))) (sss_one (ss_ret (nv 1)))))
theorem ok_law_come (T : Tx P w K mg base) : FnG P w K mg base 1 T.f_law_come T.fd_law_come ["out", "first", "barred"] F_law_come := by
  refine fnG_of T.D_law_come sc_law_come fun cdv A outer s H E B => ?_
  have C := B.cd
  have tk := B.tk
  have hr := B.rm
  have hp := B.pa
  exact (sss_cons (ss_par (i := 3) (j := 4) C.hc sc_law_come.nd rfl rfl (by decide) rfl rfl (sa_cons (se_lst sa_nil) (sa_cons (se_lst (sa_cons (nv 1) sa_nil)) sa_nil)) rfl) (sss_cons (ss_while hp (tNe C (nv 4) (se_lst sa_nil)) (sss_cons (ss_set (i := 5) sc_law_come.nd rfl (by first | exact Or.inl rfl | exact Or.inr rfl) (se_lst sa_nil)) (sss_cons (ss_for hp C.hc (si_seq (nv 4)) (sg_name (i := 6) sc_law_come.nd rfl (by first | exact Or.inl rfl | exact Or.inr rfl)) (sss_one (ss_for hp C.hc (si_seq (ix C (nv 0) (nv 6))) (sg_name (i := 7) sc_law_come.nd rfl (by first | exact Or.inl rfl | exact Or.inr rfl)) (sss_one (ss_if (sb_w (sbw_and (tNe C (nv 7) (nv 2)) (sbw_and1 (tNotIn C (nv 7) (nv 3))))) (sss_cons (ss_expr (se_append (nv 3) (nv 7))) (sss_one (ss_expr (se_append (nv 5) (nv 7))))) sss_nil))))) (sss_one (ss_set (i := 4) sc_law_come.nd rfl (by first | exact Or.inl rfl | exact Or.inr rfl) (nv 5)))))) (sss_one (ss_ret (nv 3)))))
theorem ok_law_due (T : Tx P w K mg base) : FnG P w K mg base 1 T.f_law_due T.fd_law_due ["net", "found", "station"] F_law_due := by
  refine fnG_of T.D_law_due sc_law_due fun cdv A outer s H E B => ?_
  have C := B.cd
  have tk := B.tk
  have hr := B.rm
  have hp := B.pa
  exact (sss_cons (ss_set (i := 3) sc_law_due.nd rfl (by first | exact Or.inl rfl | exact Or.inr rfl) (se_comp C.hc sc_law_due.nd (si_seq (nv 1)) (blkOk_by (own := [("row", 5)]) (N := N_law_due) (sc := defScope s_law_due) (by decide +kernel)) (fun _ _ _ _ _ => (sc_name (i := 5) sc_law_due.nd rfl (by first | exact Or.inl rfl | exact Or.inr rfl) (by decide))) (fun _ _ _ _ _ => (sts_one (tIn (Cd.blk C) (nv 2) (nv 5)))) (fun _ _ _ _ _ => (nv 5)))) (sss_cons (ss_if (tEq C (nv 3) (se_lst sa_nil)) (sss_one (ss_ret se_non)) sss_nil) (sss_cons (ss_setComp (i := 4) C.hc sc_law_due.nd rfl rfl rfl (si_rng1 rfl T.n_range (by exact (cLen rfl T.n_len (ix C (nv 0) se_int)))) (blkOk_by (own := [("other", 6)]) (N := N_law_due) (sc := defScope s_law_due) (by decide +kernel)) (fun _ _ _ _ _ => (sc_name (i := 6) sc_law_due.nd rfl (by first | exact Or.inl rfl | exact Or.inr rfl) (by decide))) (fun _ _ _ _ _ => (sts_one (tNe (Cd.blk C) (nv 6) (nv 2)))) (fun _ _ _ _ _ => (nv 6))) (sss_one (ss_ret (cTuple rfl T.n_tuple (se_comp C.hc sc_law_due.nd (si_seq (nv 4)) (blkOk_by (own := [("other", 6)]) (N := N_law_due) (sc := defScope s_law_due) (by decide +kernel)) (fun _ _ _ _ _ => (sc_name (i := 6) sc_law_due.nd rfl (by first | exact Or.inl rfl | exact Or.inr rfl) (by decide))) (fun _ _ _ _ _ => (sts_one (tEq (Cd.blk C) (se_comp (Cd.blk C).hc sc_law_due.nd (si_seq (nv 3)) (blkOk_by (own := [("row", 5)]) (by kernel_rfl)) (fun _ _ _ _ _ => (sc_name (i := 5) sc_law_due.nd rfl (by first | exact Or.inl rfl | exact Or.inr rfl) (by decide))) (fun _ _ _ _ _ => (sts_one (tNotIn (Cd.blk (Cd.blk C)) (nv 6) (nv 5)))) (fun _ _ _ _ _ => se_int)) (se_lst sa_nil)))) (fun _ _ _ _ _ => (nv 6)))))))))
theorem ok_reach (T : Tx P w K mg base) : FnG P w K mg base 2 T.f_reach T.fd_reach ["net", "station"] F_reach := by
  refine fnG_of T.D_reach sc_reach fun cdv A outer s H E B => ?_
  have C := B.cd
  have tk := B.tk
  have hr := B.rm
  have hp := B.pa
  exact (sss_cons (ss_par (i := 2) (j := 3) C.hc sc_reach.nd rfl rfl (by decide) rfl rfl (sa_cons se_dK (sa_cons (se_lst (sa_cons (nv 1) sa_nil)) sa_nil)) rfl) (sss_cons (ss_while hp (tNe C (nv 3) (se_lst sa_nil)) (sss_one (ss_for hp C.hc (si_seq (se_call (ok_nexts T) (hr.mono (by decide)) C tk rfl T.g_nexts T.D_nexts.kp T.b_nexts rfl (sa_cons (nv 0) (sa_cons (se_pop (nv 3)) sa_nil)) (hgl := (gl_cons (gl_cons gl_nil))))) (sg_name (i := 4) sc_reach.nd rfl (by first | exact Or.inl rfl | exact Or.inr rfl)) (sss_one (ss_if (tNotIn C (nv 4) (nv 2)) (sss_cons (ss_put C se_bl (nv 2) (nv 4) (by intro _; rfl)) (sss_one (ss_expr (se_append (nv 3) (nv 4))))) sss_nil))))) (sss_one (ss_ret (cTuple rfl T.n_tuple (cSorted C rfl T.n_sorted (nv 2)))))))
theorem ok_law_pick (T : Tx P w K mg base) : FnG P w K mg base 2 T.f_law_pick T.fd_law_pick ["bag", "items"] F_law_pick := by
  refine fnG_of T.D_law_pick sc_law_pick fun cdv A outer s H E B => ?_
  have C := B.cd
  have tk := B.tk
  have hr := B.rm
  have hp := B.pa
  exact (sss_one (ss_ret (ix C (nv 1) (se_call (ok_law_draw T) (hr.mono (by decide)) C tk rfl T.g_law_draw T.D_law_draw.kp T.b_law_draw rfl (sa_cons (nv 0) (sa_cons (cLen rfl T.n_len (nv 1)) sa_nil)) (hgl := (gl_cons (gl_cons gl_nil)))))))
theorem ok_law_mixed (T : Tx P w K mg base) : FnG P w K mg base 2 T.f_law_mixed T.fd_law_mixed ["bag", "items"] F_law_mixed := by
  refine fnG_of T.D_law_mixed sc_law_mixed fun cdv A outer s H E B => ?_
  have C := B.cd
  have tk := B.tk
  have hr := B.rm
  have hp := B.pa
  exact (sss_cons (ss_par (i := 2) (j := 3) C.hc sc_law_mixed.nd rfl rfl (by decide) rfl rfl (sa_cons (cList rfl T.n_list (nv 1)) (sa_cons (se_lst sa_nil) sa_nil)) rfl) (sss_cons (ss_while hp (tNe C (nv 2) (se_lst sa_nil)) (sss_one (ss_expr (se_append (nv 3) (se_popAt (nv 2) (se_call (ok_law_draw T) (hr.mono (by decide)) C tk rfl T.g_law_draw T.D_law_draw.kp T.b_law_draw rfl (sa_cons (nv 0) (sa_cons (cLen rfl T.n_len (nv 2)) sa_nil)) (hgl := (gl_cons (gl_cons gl_nil))))))))) (sss_one (ss_ret (nv 3)))))
theorem ok_law_all_rounds (T : Tx P w K mg base) : FnG P w K mg base 2 T.f_law_all_rounds T.fd_law_all_rounds ["net"] F_law_all_rounds := by
  refine fnG_of T.D_law_all_rounds sc_law_all_rounds fun cdv A outer s H E B => ?_
  have C := B.cd
  have tk := B.tk
  have hr := B.rm
  have hp := B.pa
  exact (sss_cons (ss_par (i := 2) (j := 3) C.hc sc_law_all_rounds.nd rfl rfl (by decide) rfl rfl (sa_cons (se_call (ok_law_out T) (hr.mono (by decide)) C tk rfl T.g_law_out T.D_law_out.kp T.b_law_out rfl (sa_cons (nv 0) sa_nil) (hgl := (gl_cons gl_nil))) (sa_cons (se_lst sa_nil) sa_nil)) rfl) (sss_cons (ss_for hp C.hc (si_rng1 rfl T.n_range (by exact (cLen rfl T.n_len (nv 2)))) (sg_name (i := 1) sc_law_all_rounds.nd rfl (by first | exact Or.inl rfl | exact Or.inr rfl)) (sss_cons (ss_set (i := 4) sc_law_all_rounds.nd rfl (by first | exact Or.inl rfl | exact Or.inr rfl) (se_lst (sa_cons (se_tup (sa_cons (nv 1) sa_nil)) sa_nil))) (sss_one (ss_while hp (tNe C (nv 4) (se_lst sa_nil)) (sss_cons (ss_set (i := 5) sc_law_all_rounds.nd rfl (by first | exact Or.inl rfl | exact Or.inr rfl) (se_pop (nv 4))) (sss_one (ss_for hp C.hc (si_seq (ix C (nv 2) (ix C (nv 5) (se_neg se_int)))) (sg_name (i := 6) sc_law_all_rounds.nd rfl (by first | exact Or.inl rfl | exact Or.inr rfl)) (sss_cons (ss_if (sb_w (sbw_and (tEq C (nv 6) (nv 1)) (sbw_and1 (tGt (cLen rfl T.n_len (nv 5)) se_int)))) (sss_one (ss_expr (se_append (nv 3) (nv 5)))) sss_nil) (sss_one (ss_if (sb_w (sbw_and (tGt (nv 6) (nv 1)) (sbw_and1 (tNotIn C (nv 6) (nv 5))))) (sss_one (ss_expr (se_append (nv 4) (bAdd (nv 5) (se_tup (sa_cons (nv 6) sa_nil)))))) sss_nil)))))))))) (sss_one (ss_ret (nv 3)))))
theorem ok_law_gates (T : Tx P w K mg base) : FnG P w K mg base 2 T.f_law_gates T.fd_law_gates ["net", "station"] F_law_gates := by
  refine fnG_of T.D_law_gates sc_law_gates fun cdv A outer s H E B => ?_
  have C := B.cd
  have tk := B.tk
  have hr := B.rm
  have hp := B.pa
  exact (sss_cons (ss_set (i := 2) sc_law_gates.nd rfl (by first | exact Or.inl rfl | exact Or.inr rfl) (se_call (ok_law_out T) (hr.mono (by decide)) C tk rfl T.g_law_out T.D_law_out.kp T.b_law_out rfl (sa_cons (nv 0) sa_nil) (hgl := (gl_cons gl_nil)))) (sss_cons (ss_if (tNotIn C (nv 1) (se_call (ok_law_come T) (hr.mono (by decide)) C tk rfl T.g_law_come T.D_law_come.kp T.b_law_come rfl (sa_cons (nv 2) (sa_cons (nv 1) (sa_cons se_non sa_nil))) (hgl := (gl_cons (gl_cons (gl_cons gl_nil)))))) (sss_one (ss_ret se_non)) sss_nil) (sss_one (ss_ret (cTuple rfl T.n_tuple (se_comp C.hc sc_law_gates.nd (si_rng1 rfl T.n_range (by exact (cLen rfl T.n_len (nv 2)))) (blkOk_by (own := [("other", 3)]) (N := N_law_gates) (sc := defScope s_law_gates) (by decide +kernel)) (fun _ _ _ _ _ => (sc_name (i := 3) sc_law_gates.nd rfl (by first | exact Or.inl rfl | exact Or.inr rfl) (by decide))) (fun _ _ _ _ _ => (sts_one (sb_w (sbw_and (tNe (Cd.blk C) (nv 3) (nv 1)) (sbw_and1 (tNotIn (Cd.blk C) (nv 1) (se_call (ok_law_come T) (hr.mono (by decide)) (Cd.blk C) takesNo rfl T.g_law_come T.D_law_come.kp T.b_law_come rfl (sa_cons (nv 2) (sa_cons (nv 1) (sa_cons (nv 3) sa_nil))) (hgl := (gl_cons (gl_cons (gl_cons gl_nil))))))))))) (fun _ _ _ _ _ => (nv 3))))))))
theorem ok_gates (T : Tx P w K mg base) : FnG P w K mg base 3 T.f_gates T.fd_gates ["net", "station"] F_gates := by
  refine fnG_of T.D_gates sc_gates fun cdv A outer s H E B => ?_
  have C := B.cd
  have tk := B.tk
  have hr := B.rm
  have hp := B.pa
  exact (sss_cons (ss_if (tNotIn C (nv 1) (se_call (ok_reach T) (hr.mono (by decide)) C tk rfl T.g_reach T.D_reach.kp T.b_reach rfl (sa_cons (nv 0) (sa_cons (nv 1) sa_nil)) (hgl := (gl_cons (gl_cons gl_nil))))) (sss_one (ss_ret se_non)) sss_nil) (sss_cons (ss_set (i := 2) sc_gates.nd rfl (by first | exact Or.inl rfl | exact Or.inr rfl) (se_lst sa_nil)) (sss_cons (ss_for hp C.hc (si_rng1 rfl T.n_range (by exact (cLen rfl T.n_len (ix C (nv 0) se_int)))) (sg_name (i := 3) sc_gates.nd rfl (by first | exact Or.inl rfl | exact Or.inr rfl)) (sss_one (ss_if (sb_w (sbw_and (tNe C (nv 3) (nv 1)) (sbw_and1 (tNotIn C (nv 1) (se_call (ok_reach T) (hr.mono (by decide)) C tk rfl T.g_reach T.D_reach.kp T.b_reach rfl (sa_cons (se_call (ok_bare_at T) (hr.mono (by decide)) C tk rfl T.g_bare_at T.D_bare_at.kp T.b_bare_at rfl (sa_cons (nv 0) (sa_cons (nv 3) sa_nil)) (hgl := (gl_cons (gl_cons gl_nil)))) (sa_cons (nv 1) sa_nil)) (hgl := (gl_cons (gl_cons gl_nil)))))))) (sss_one (ss_expr (se_append (nv 2) (nv 3)))) sss_nil))) (sss_one (ss_ret (cTuple rfl T.n_tuple (nv 2)))))))
theorem ok_law_lines (T : Tx P w K mg base) : FnG P w K mg base 3 T.f_law_lines T.fd_law_lines ["bag", "size"] F_law_lines := by
  refine fnG_of T.D_law_lines sc_law_lines fun cdv A outer s H E B => ?_
  have C := B.cd
  have tk := B.tk
  have hr := B.rm
  have hp := B.pa
  exact (sss_cons (ss_asg (se_tup (sa_cons (se_call (ok_law_pairs T) (hr.mono (by decide)) C tk rfl T.g_law_pairs T.D_law_pairs.kp T.b_law_pairs rfl (sa_cons (nv 1) sa_nil) (hgl := (gl_cons gl_nil))) (sa_cons (se_call (ok_law_mixed T) (hr.mono (by decide)) C tk rfl T.g_law_mixed T.D_law_mixed.kp T.b_law_mixed rfl (sa_cons (nv 0) (sa_cons (se_listRng1 C.hc rfl T.n_list rfl T.n_range (nv 1)) sa_nil)) (hgl := (gl_cons (gl_cons gl_nil)))) (sa_cons (se_call (ok_law_draw T) (hr.mono (by decide)) C tk rfl T.g_law_draw T.D_law_draw.kp T.b_law_draw rfl (sa_cons (nv 0) (sa_cons se_int sa_nil)) (hgl := (gl_cons (gl_cons gl_nil)))) sa_nil)))) (sg_tup C.hc (sgs_cons (sg_name (i := 3) sc_law_lines.nd rfl (by first | exact Or.inl rfl | exact Or.inr rfl)) (sgs_cons (sg_name (i := 4) sc_law_lines.nd rfl (by first | exact Or.inl rfl | exact Or.inr rfl)) (sgs_cons (sg_name (i := 5) sc_law_lines.nd rfl (by first | exact Or.inl rfl | exact Or.inr rfl)) sgs_nil))) (len_cons (len_cons (len_cons len_nil))))) (sss_cons (ss_set (i := 2) sc_law_lines.nd rfl (by first | exact Or.inl rfl | exact Or.inr rfl) (se_if (tNe C (nv 3) (se_lst sa_nil)) (se_comp C.hc sc_law_lines.nd (si_rng1 rfl T.n_range (by exact (se_call (ok_law_draw T) (hr.mono (by decide)) C tk rfl T.g_law_draw T.D_law_draw.kp T.b_law_draw rfl (sa_cons (nv 0) (sa_cons se_int sa_nil)) (hgl := (gl_cons (gl_cons gl_nil)))))) (blkOk_by (own := [("turn", 9)]) (N := N_law_lines) (sc := defScope s_law_lines) (by decide +kernel)) (fun _ _ _ _ _ => (sc_name (i := 9) sc_law_lines.nd rfl (by first | exact Or.inl rfl | exact Or.inr rfl) (by decide))) (fun _ _ _ _ _ => sts_nil) (fun _ _ _ _ _ => (se_call (ok_law_pick T) (hr.mono (by decide)) (Cd.blk C) takesNo rfl T.g_law_pick T.D_law_pick.kp T.b_law_pick rfl (sa_cons (nv 0) (sa_cons (nv 3) sa_nil)) (hgl := (gl_cons (gl_cons gl_nil)))))) (se_lst sa_nil))) (sss_cons (ss_if (tEq C (nv 5) se_int) (sss_one (ss_setComp (i := 6) C.hc sc_law_lines.nd rfl rfl rfl (si_seq (nv 3)) (blkOk_by (own := [("pair", 10)]) (N := N_law_lines) (sc := defScope s_law_lines) (by decide +kernel)) (fun _ _ _ _ _ => (sc_name (i := 10) sc_law_lines.nd rfl (by first | exact Or.inl rfl | exact Or.inr rfl) (by decide))) (fun _ _ _ _ _ => (sts_one (sb_w (sbw_and (tLt (ix (Cd.blk C) (nv 10) se_int) (ix (Cd.blk C) (nv 10) se_int)) (sbw_and1 (tEq (Cd.blk C) (se_call (ok_law_draw T) (hr.mono (by decide)) (Cd.blk C) takesNo rfl T.g_law_draw T.D_law_draw.kp T.b_law_draw rfl (sa_cons (nv 0) (sa_cons se_int sa_nil)) (hgl := (gl_cons (gl_cons gl_nil)))) se_int)))))) (fun _ _ _ _ _ => (nv 10)))) (sss_one (ss_if (tEq C (nv 5) se_int) (sss_one (ss_set (i := 6) sc_law_lines.nd rfl (by first | exact Or.inl rfl | exact Or.inr rfl) (bAdd (bAdd (se_listZip C.hc rfl T.n_list rfl T.n_zip (sa_cons (nv 4) (sa_cons (se_sl (nv 4) (so_some se_int) so_none) sa_nil))) (se_listZip C.hc rfl T.n_list rfl T.n_zip (sa_cons (se_sl (nv 4) (so_some se_int) so_none) (sa_cons (nv 4) sa_nil)))) (nv 2)))) (sss_one (ss_if (tEq C (nv 5) se_int) (sss_one (ss_set (i := 6) sc_law_lines.nd rfl (by first | exact Or.inl rfl | exact Or.inr rfl) (bAdd (se_call (ok_law_ring T) (hr.mono (by decide)) C tk rfl T.g_law_ring T.D_law_ring.kp T.b_law_ring rfl (sa_cons (nv 4) sa_nil) (hgl := (gl_cons gl_nil))) (nv 2)))) (sss_one (ss_if (tEq C (nv 5) se_int) (sss_cons (ss_set (i := 7) sc_law_lines.nd rfl (by first | exact Or.inl rfl | exact Or.inr rfl) (bAdd se_int (se_call (ok_law_draw T) (hr.mono (by decide)) C tk rfl T.g_law_draw T.D_law_draw.kp T.b_law_draw rfl (sa_cons (nv 0) (sa_cons (nv 1) sa_nil)) (hgl := (gl_cons (gl_cons gl_nil)))))) (sss_one (ss_set (i := 6) sc_law_lines.nd rfl (by first | exact Or.inl rfl | exact Or.inr rfl) (bAdd (bAdd (se_call (ok_law_ring T) (hr.mono (by decide)) C tk rfl T.g_law_ring T.D_law_ring.kp T.b_law_ring rfl (sa_cons (se_sl (nv 4) so_none (so_some (nv 7))) sa_nil) (hgl := (gl_cons gl_nil))) (se_call (ok_law_ring T) (hr.mono (by decide)) C tk rfl T.g_law_ring T.D_law_ring.kp T.b_law_ring rfl (sa_cons (se_sl (nv 4) (so_some (bSub (nv 7) se_int)) so_none) sa_nil) (hgl := (gl_cons gl_nil)))) (nv 2))))) (sss_one (ss_if (tLt (nv 1) se_int) (sss_cons (ss_set (i := 8) sc_law_lines.nd rfl (by first | exact Or.inl rfl | exact Or.inr rfl) (se_call (ok_law_pick T) (hr.mono (by decide)) C tk rfl T.g_law_pick T.D_law_pick.kp T.b_law_pick rfl (sa_cons (nv 0) (sa_cons (se_lst (sa_cons se_int (sa_cons se_int (sa_cons se_int (sa_cons se_int (sa_cons se_int sa_nil)))))) sa_nil)) (hgl := (gl_cons (gl_cons gl_nil))))) (sss_one (ss_setComp (i := 6) C.hc sc_law_lines.nd rfl rfl rfl (si_seq (nv 3)) (blkOk_by (own := [("pair", 10)]) (N := N_law_lines) (sc := defScope s_law_lines) (by decide +kernel)) (fun _ _ _ _ _ => (sc_name (i := 10) sc_law_lines.nd rfl (by first | exact Or.inl rfl | exact Or.inr rfl) (by decide))) (fun _ _ _ _ _ => (sts_one (tLt (se_call (ok_law_draw T) (hr.mono (by decide)) (Cd.blk C) takesNo rfl T.g_law_draw T.D_law_draw.kp T.b_law_draw rfl (sa_cons (nv 0) (sa_cons se_int sa_nil)) (hgl := (gl_cons (gl_cons gl_nil)))) (nv 8)))) (fun _ _ _ _ _ => (nv 10))))) (sss_one (ss_setComp (i := 6) C.hc sc_law_lines.nd rfl rfl rfl (si_rng1 rfl T.n_range (by exact (bAdd se_int (se_call (ok_law_draw T) (hr.mono (by decide)) C tk rfl T.g_law_draw T.D_law_draw.kp T.b_law_draw rfl (sa_cons (nv 0) (sa_cons (se_if (tEq C (nv 1) se_int) se_int se_int) sa_nil)) (hgl := (gl_cons (gl_cons gl_nil))))))) (blkOk_by (own := [("turn", 9)]) (N := N_law_lines) (sc := defScope s_law_lines) (by decide +kernel)) (fun _ _ _ _ _ => (sc_name (i := 9) sc_law_lines.nd rfl (by first | exact Or.inl rfl | exact Or.inr rfl) (by decide))) (fun _ _ _ _ _ => sts_nil) (fun _ _ _ _ _ => (se_call (ok_law_pick T) (hr.mono (by decide)) (Cd.blk C) takesNo rfl T.g_law_pick T.D_law_pick.kp T.b_law_pick rfl (sa_cons (nv 0) (sa_cons (nv 3) sa_nil)) (hgl := (gl_cons (gl_cons gl_nil)))))))))))))))) (sss_one (ss_ret (cTuple rfl T.n_tuple (cSorted C rfl T.n_sorted (cSet C rfl T.n_set (nv 6)))))))))
theorem ok_law_net (T : Tx P w K mg base) : FnG P w K mg base 4 T.f_law_net T.fd_law_net ["bag", "fewest", "most"] F_law_net := by
  refine fnG_of T.D_law_net sc_law_net fun cdv A outer s H E B => ?_
  have C := B.cd
  have tk := B.tk
  have hr := B.rm
  have hp := B.pa
  exact (sss_cons (ss_set (i := 3) sc_law_net.nd rfl (by first | exact Or.inl rfl | exact Or.inr rfl) (bAdd (nv 1) (se_call (ok_law_draw T) (hr.mono (by decide)) C tk rfl T.g_law_draw T.D_law_draw.kp T.b_law_draw rfl (sa_cons (nv 0) (sa_cons (bAdd (bSub (nv 2) (nv 1)) se_int) sa_nil)) (hgl := (gl_cons (gl_cons gl_nil)))))) (sss_cons (ss_set (i := 4) sc_law_net.nd rfl (by first | exact Or.inl rfl | exact Or.inr rfl) (cTuple rfl T.n_tuple (se_comp C.hc sc_law_net.nd (si_rng1 rfl T.n_range (by exact (nv 3))) (blkOk_by (own := [("station", 5)]) (N := N_law_net) (sc := defScope s_law_net) (by decide +kernel)) (fun _ _ _ _ _ => (sc_name (i := 5) sc_law_net.nd rfl (by first | exact Or.inl rfl | exact Or.inr rfl) (by decide))) (fun _ _ _ _ _ => sts_nil) (fun _ _ _ _ _ => (se_call (ok_law_pick T) (hr.mono (by decide)) (Cd.blk C) takesNo rfl T.g_law_pick T.D_law_pick.kp T.b_law_pick rfl (sa_cons (nv 0) (sa_cons (se_lst (sa_cons se_int (sa_cons se_int (sa_cons se_int (sa_cons se_int (sa_cons se_int (sa_cons se_int (sa_cons se_int sa_nil)))))))) sa_nil)) (hgl := (gl_cons (gl_cons gl_nil)))))))) (sss_one (ss_ret (se_tup (sa_cons (nv 4) (sa_cons (se_call (ok_law_lines T) (hr.mono (by decide)) C tk rfl T.g_law_lines T.D_law_lines.kp T.b_law_lines rfl (sa_cons (nv 0) (sa_cons (nv 3) sa_nil)) (hgl := (gl_cons (gl_cons gl_nil)))) sa_nil)))))))
theorem ok_law_is_right (T : Tx P w K mg base) : FnG P w K mg base 4 T.f_law_is_right T.fd_law_is_right ["bag", "net", "is_named"] F_law_is_right := by
  refine fnG_of T.D_law_is_right sc_law_is_right fun cdv A outer s H E B => ?_
  have C := B.cd
  have tk := B.tk
  have hr := B.rm
  have hp := B.pa
  exact (sss_cons (ss_par (i := 5) (j := 6) C.hc sc_law_is_right.nd rfl rfl (by decide) rfl rfl (sa_cons (se_call (ok_law_all_rounds T) (hr.mono (by decide)) C tk rfl T.g_law_all_rounds T.D_law_all_rounds.kp T.b_law_all_rounds rfl (sa_cons (nv 1) sa_nil) (hgl := (gl_cons gl_nil))) (sa_cons (cRepr C rfl T.n_repr (nv 1)) sa_nil)) rfl) (sss_cons (ss_set (i := 3) sc_law_is_right.nd rfl (by first | exact Or.inl rfl | exact Or.inr rfl) (se_tup (sa_cons (cTuple rfl T.n_tuple (se_comp C.hc sc_law_is_right.nd (si_seq (ix C (nv 1) se_int)) (blkOk_by (own := [("tracks", 9)]) (N := N_law_is_right) (sc := defScope s_law_is_right) (by decide +kernel)) (fun _ _ _ _ _ => (sc_name (i := 9) sc_law_is_right.nd rfl (by first | exact Or.inl rfl | exact Or.inr rfl) (by decide))) (fun _ _ _ _ _ => sts_nil) (fun _ _ _ _ _ => (bAdd se_int (se_call (ok_law_draw T) (hr.mono (by decide)) (Cd.blk C) takesNo rfl T.g_law_draw T.D_law_draw.kp T.b_law_draw rfl (sa_cons (nv 0) (sa_cons se_int sa_nil)) (hgl := (gl_cons (gl_cons gl_nil)))))))) (sa_cons (ix C (nv 1) se_int) sa_nil)))) (sss_cons (ss_for hp C.hc (si_rng1 rfl T.n_range (by exact (cLen rfl T.n_len (ix C (nv 1) se_int)))) (sg_name (i := 4) sc_law_is_right.nd rfl (by first | exact Or.inl rfl | exact Or.inr rfl)) (sss_cons (ss_set (i := 7) sc_law_is_right.nd rfl (by first | exact Or.inl rfl | exact Or.inr rfl) (se_call (ok_law_due T) (hr.mono (by decide)) C tk rfl T.g_law_due T.D_law_due.kp T.b_law_due rfl (sa_cons (nv 1) (sa_cons (nv 5) (sa_cons (nv 4) sa_nil))) (hgl := (gl_cons (gl_cons (gl_cons gl_nil)))))) (sss_cons (ss_set (i := 8) sc_law_is_right.nd rfl (by first | exact Or.inl rfl | exact Or.inr rfl) (se_if (sb_val (nv 2)) (se_callK (ks := ["station", "net"]) (ix := [1, 0]) (ok_gates T) (hr.mono (by decide)) C tk rfl T.g_gates T.D_gates.kp (T.k_gates_station_net) (by intro vs h; exact pickLen_gates_station_net vs h) (sk_cons (nv 4) (sk_cons (nv 1) sk_nil)) (hgl := (gl_cons (gl_cons gl_nil)))) (se_call (ok_gates T) (hr.mono (by decide)) C tk rfl T.g_gates T.D_gates.kp T.b_gates rfl (sa_cons (nv 1) (sa_cons (nv 4) sa_nil)) (hgl := (gl_cons (gl_cons gl_nil)))))) (sss_one (ss_if (sb_w (sbw_or (tNe C (cRepr C rfl T.n_repr (se_lst (sa_cons (nv 8) (sa_cons (se_call (ok_gates T) (hr.mono (by decide)) C tk rfl T.g_gates T.D_gates.kp T.b_gates rfl (sa_cons (nv 3) (sa_cons (nv 4) sa_nil)) (hgl := (gl_cons (gl_cons gl_nil)))) sa_nil)))) (cRepr C rfl T.n_repr (se_lst (sa_cons (nv 7) (sa_cons (nv 7) sa_nil))))) (sbw_or1 (tNe C (cRepr C rfl T.n_repr (se_call (ok_law_gates T) (hr.mono (by decide)) C tk rfl T.g_law_gates T.D_law_gates.kp T.b_law_gates rfl (sa_cons (nv 1) (sa_cons (nv 4) sa_nil)) (hgl := (gl_cons (gl_cons gl_nil))))) (cRepr C rfl T.n_repr (nv 7)))))) (sss_one (ss_ret se_bl)) sss_nil))))) (sss_cons (ss_set (i := 4) sc_law_is_right.nd rfl (by first | exact Or.inl rfl | exact Or.inr rfl) (se_call (ok_law_draw T) (hr.mono (by decide)) C tk rfl T.g_law_draw T.D_law_draw.kp T.b_law_draw rfl (sa_cons (nv 0) (sa_cons (cLen rfl T.n_len (ix C (nv 1) se_int)) sa_nil)) (hgl := (gl_cons (gl_cons gl_nil))))) (sss_one (ss_ret (se_and (qEq C (cRepr C rfl T.n_repr (se_call (ok_gates T) (hr.mono (by decide)) C tk rfl T.g_gates T.D_gates.kp T.b_gates rfl (sa_cons (nv 1) (sa_cons (nv 4) sa_nil)) (hgl := (gl_cons (gl_cons gl_nil))))) (cRepr C rfl T.n_repr (se_call (ok_law_due T) (hr.mono (by decide)) C tk rfl T.g_law_due T.D_law_due.kp T.b_law_due rfl (sa_cons (nv 1) (sa_cons (nv 5) (sa_cons (nv 4) sa_nil))) (hgl := (gl_cons (gl_cons (gl_cons gl_nil))))))) (se_one (qEq C (cRepr C rfl T.n_repr (nv 1)) (nv 6))))))))))
theorem ok_law_is_far_right (T : Tx P w K mg base) : FnG P w K mg base 5 T.f_law_is_far_right T.fd_law_is_far_right ["bag"] F_law_is_far_right := by
  refine fnG_of T.D_law_is_far_right sc_law_is_far_right fun cdv A outer s H E B => ?_
  have C := B.cd
  have tk := B.tk
  have hr := B.rm
  have hp := B.pa
  exact (sss_cons (ss_set (i := 1) sc_law_is_far_right.nd rfl (by first | exact Or.inl rfl | exact Or.inr rfl) (se_call (ok_law_net T) (hr.mono (by decide)) C tk rfl T.g_law_net T.D_law_net.kp T.b_law_net rfl (sa_cons (nv 0) (sa_cons se_int (sa_cons se_int sa_nil))) (hgl := (gl_cons (gl_cons (gl_cons gl_nil)))))) (sss_cons (ss_for hp C.hc (si_seq (se_sl (se_call (ok_law_mixed T) (hr.mono (by decide)) C tk rfl T.g_law_mixed T.D_law_mixed.kp T.b_law_mixed rfl (sa_cons (nv 0) (sa_cons (se_listRng1 C.hc rfl T.n_list rfl T.n_range (cLen rfl T.n_len (ix C (nv 1) se_int))) sa_nil)) (hgl := (gl_cons (gl_cons gl_nil)))) so_none (so_some se_int))) (sg_name (i := 2) sc_law_is_far_right.nd rfl (by first | exact Or.inl rfl | exact Or.inr rfl)) (sss_one (ss_if (tNe C (cRepr C rfl T.n_repr (se_call (ok_gates T) (hr.mono (by decide)) C tk rfl T.g_gates T.D_gates.kp T.b_gates rfl (sa_cons (nv 1) (sa_cons (nv 2) sa_nil)) (hgl := (gl_cons (gl_cons gl_nil))))) (cRepr C rfl T.n_repr (se_call (ok_law_gates T) (hr.mono (by decide)) C tk rfl T.g_law_gates T.D_law_gates.kp T.b_law_gates rfl (sa_cons (nv 1) (sa_cons (nv 2) sa_nil)) (hgl := (gl_cons (gl_cons gl_nil)))))) (sss_one (ss_ret se_bl)) sss_nil))) (sss_one (ss_ret se_bl))))
theorem ok_law (T : Tx P w K mg base) : FnG P w K mg base 6 T.f_law T.fd_law ["script"] F_law := by
  refine fnG_of T.D_law sc_law fun cdv A outer s H E B => ?_
  have C := B.cd
  have tk := B.tk
  have hr := B.rm
  have hp := B.pa
  exact (sss_cons (ss_set (i := 1) sc_law.nd rfl (by first | exact Or.inl rfl | exact Or.inr rfl) (se_call (ok_law_bag T) (hr.mono (by decide)) C tk rfl T.g_law_bag T.D_law_bag.kp T.b_law_bag rfl (sa_cons (nv 0) sa_nil) (hgl := (gl_cons gl_nil)))) (sss_cons (ss_if (sb_not (sb_val (se_call (ok_law_is_far_right T) (hr.mono (by decide)) C tk rfl T.g_law_is_far_right T.D_law_is_far_right.kp T.b_law_is_far_right rfl (sa_cons (nv 1) sa_nil) (hgl := (gl_cons gl_nil))))) (sss_one (ss_ret se_bl)) sss_nil) (sss_cons (ss_for hp C.hc (si_rng1 rfl T.n_range (by exact se_int)) (sg_name (i := 2) sc_law.nd rfl (by first | exact Or.inl rfl | exact Or.inr rfl)) (sss_cons (ss_set (i := 3) sc_law.nd rfl (by first | exact Or.inl rfl | exact Or.inr rfl) (se_call (ok_law_net T) (hr.mono (by decide)) C tk rfl T.g_law_net T.D_law_net.kp T.b_law_net rfl (sa_cons (nv 1) (sa_cons (bAdd se_int (nv 2)) (sa_cons (ix C (se_lst (sa_cons se_int (sa_cons se_int (sa_cons se_int (sa_cons se_int sa_nil))))) (nv 2)) sa_nil))) (hgl := (gl_cons (gl_cons (gl_cons gl_nil)))))) (sss_one (ss_if (sb_not (sb_val (se_call (ok_law_is_right T) (hr.mono (by decide)) C tk rfl T.g_law_is_right T.D_law_is_right.kp T.b_law_is_right rfl (sa_cons (nv 1) (sa_cons (nv 3) (sa_cons (qEq C (nv 2) se_int) sa_nil))) (hgl := (gl_cons (gl_cons (gl_cons gl_nil))))))) (sss_one (ss_ret se_bl)) sss_nil)))) (sss_one (ss_ret se_bl)))))
end
end K41

set_option Elab.async false
set_option linter.all false
set_option maxRecDepth 100000
set_option maxHeartbeats 4000000
set_option autoImplicit false
namespace K41
open PySem PySem.Spec PyProof.Rows L2 Fx

/-! ### nets -/
abbrev E2 := List (Int × Int)
def lineD (p : Int × Int) : D := .tup [.int p.1, .int p.2]
def netD (tr : List Int) (E : E2) : D := .tup [.tup (tr.map .int), .tup (E.map lineD)]
def outs (E : E2) (s : Int) : List Int := (E.filter fun p => decide (p.1 = s)).map (·.2)
theorem bl_line {n : Nat} (p : Int × Int) : Bl n (lineD p) := .tup (.cons (.int _) (.cons (.int _) .nil))
theorem bl_lines {n : Nat} (E : E2) : Bl n (.tup (E.map lineD)) := .tup (Bls.of fun d hd => by
  obtain ⟨p, _, rfl⟩ := List.mem_map.mp hd
  exact bl_line p)
theorem bl_net {n : Nat} (tr : List Int) (E : E2) : Bl n (netD tr E) := .tup (.cons (bl_tints tr) (.cons (bl_lines E) .nil))
theorem atI0 (a b : D) : atI [a, b] 0 = some a := by simp [atI, ixN]
theorem atI1 (a b : D) : atI [a, b] 1 = some b := by simp [atI, ixN]

theorem mem2 (s a b : Int) : decide (s ∈ [a, b]) = (decide (a = s) || decide (b = s)) := by
  by_cases h1 : a = s
  · subst h1; simp
  · by_cases h2 : b = s
    · subst h2; simp
    · simp [h1, h2, Ne.symm h1, Ne.symm h2]
theorem F_nexts_eq (tr : List Int) (E : E2) (s : Int) (st : Store) (hE : E.length ≤ 1000000) : F_nexts [netD tr E, .int s] st = .ok (.v (.tup ((outs E s).map .int))) st := by
  have hc : compL (fun _ => True) (tgN 2) (fTrue (fBin gEq (fBin gIx (fName 2) (fC (.int 0))) (fName 1))) (fBin gIx (fName 2) (fC (.int 1))) (wipeE [some (netD tr E), some (.int s), none] [2]) (E.map lineD) [] st
      = .ok (.o (.lst ([] ++ ((E.map lineD).filter fun d => match d with | .tup [.int a, .int b] => decide (a = s) | _ => false).map fun d => match d with | .tup [.int a, .int b] => .int b | _ => .non))) st := by
    refine compL_pure trivial _ _ _ _ (fun d hd => ?_) (by simp; exact hE)
    obtain ⟨p, _, rfl⟩ := List.mem_map.mp hd
    refine ⟨[some (netD tr E), some (.int s), some (lineD p)], rfl, ?_, fun _ => ?_⟩
    · simp [fTrue, fBin, fName, fC, gIx, idx, lineD, Out.bind, atI0, gEq, R.toP, D.toP, PyData.eqv]
      rw [Bool.eq_iff_iff]; simp
    · simp [fBin, fName, fC, gIx, idx, lineD, Out.bind, atI1]
  have e : F_nexts [netD tr E, .int s] st = gc st (retOf (B_nexts [some (netD tr E), some (.int s), none] st)) := rfl
  rw [e]
  unfold B_nexts fRet fCall1 fComp fIt
  have e2 : ((fBin gIx (fName 0) (fC (.int 1))) [some (netD tr E), some (.int s), none] st).bind sqOf = .ok ⟨E.map lineD, fun _ => True⟩ st := by
    simp [fBin, fName, fC, gIx, idx, netD, Out.bind, atI1, sqOf]
  rw [e2]
  simp only [Out.bind, hc]
  have e3 : ([] ++ ((E.map lineD).filter fun d => match d with | .tup [.int a, .int b] => decide (a = s) | _ => false).map fun d => match d with | .tup [.int a, .int b] => D.int b | _ => .non) = (outs E s).map .int := by
    unfold outs
    simp only [List.nil_append, List.filter_map, List.map_map]
    rfl
  rw [e3]
  simp only [gTuple, seqL, Out.thenS, retOf]
  exact gc_same
/-- the net without the lines at s -/
def bareE (E : E2) (s : Int) : E2 := E.filter fun p => !(decide (p.1 = s) || decide (p.2 = s))
theorem F_bare_eq (tr : List Int) (E : E2) (s : Int) (st : Store) (hE : E.length ≤ 1000000) : F_bare_at [netD tr E, .int s] st = .ok (.v (netD tr (bareE E s))) st := by
  have hc : compL (fun _ => True) (tgN 2) (fTrue (fBin gNotIn (fName 1) (fName 2))) (fName 2) (wipeE [some (netD tr E), some (.int s), none] [2]) (E.map lineD) [] st
      = .ok (.o (.lst ([] ++ ((E.map lineD).filter fun d => match d with | .tup [.int a, .int b] => !(decide (a = s) || decide (b = s)) | _ => false).map id))) st := by
    refine compL_pure trivial _ _ _ _ (fun d hd => ?_) (by simp; exact hE)
    obtain ⟨p, _, rfl⟩ := List.mem_map.mp hd
    refine ⟨[some (netD tr E), some (.int s), some (lineD p)], rfl, ?_, fun _ => rfl⟩
    have e : inP st (.v (.int s)) (.v (lineD p)) = some (decide (s ∈ [p.1, p.2])) := inP_tup s [p.1, p.2]
    simp only [fTrue, fBin, fName, Out.bind, List.getElem?_cons_succ, List.getElem?_cons_zero, gNotIn, e, asB_bl]
    simp only [lineD]
    congr 1
    rw [mem2]
  have e : F_bare_at [netD tr E, .int s] st = gc st (retOf (B_bare_at [some (netD tr E), some (.int s), none] st)) := rfl
  rw [e]
  unfold B_bare_at fRet fTup fCons fCall1 fComp fIt fNil
  have e1 : (fBin gIx (fName 0) (fC (.int 0))) [some (netD tr E), some (.int s), none] st = .ok (.v (.tup (tr.map .int))) st := by
    simp [fBin, fName, fC, gIx, idx, netD, Out.bind, atI0]
  have e2 : ((fBin gIx (fName 0) (fC (.int 1))) [some (netD tr E), some (.int s), none] st).bind sqOf = .ok ⟨E.map lineD, fun _ => True⟩ st := by
    simp [fBin, fName, fC, gIx, idx, netD, Out.bind, atI1, sqOf]
  simp only [e1, Out.bind, alloc_v]
  have e2' : Out.bind ((fBin gIx (fName 0) (fC (.int 1))) [some (netD tr E), some (.int s), none] st) sqOf = .ok ⟨E.map lineD, fun _ => True⟩ st := e2
  unfold Out.bind at e2'
  simp only [e2', hc]
  have e3 : ([] ++ ((E.map lineD).filter fun d => match d with | .tup [.int a, .int b] => !(decide (a = s) || decide (b = s)) | _ => false).map id) = (bareE E s).map lineD := by
    unfold bareE
    simp only [List.nil_append, List.filter_map, List.map_id]
    rfl
  rw [e3]
  simp only [gTuple, seqL, alloc_v]
  simp only [List.length_cons, List.length_nil, Nat.zero_add, if_pos (show 1 + 1 ≤ 1000000 by decide), Out.thenS, retOf]
  exact gc_same
end K41

set_option Elab.async false
set_option linter.all false
set_option maxRecDepth 100000
set_option maxHeartbeats 4000000
set_option autoImplicit false
namespace K41
open PySem PySem.Spec PyProof.Rows L2 Fx

/-! ### where one comes to -/
inductive Rch (R : Int → Int → Prop) (s : Int) : Int → Prop
  | one {v : Int} (h : R s v) : Rch R s v
  | more {u v : Int} (h : Rch R s u) (t : R u v) : Rch R s v
theorem Rch.imp {R R' : Int → Int → Prop} {s : Int} (h : ∀ a b, R a b → R' a b) : ∀ {v : Int}, Rch R s v → Rch R' s v
  | _, .one q => .one (h _ _ q)
  | _, .more q t => .more (Rch.imp h q) (h _ _ t)
/-- a search's state: found, and what waits -/
structure Srch (R : Int → Int → Prop) (n : Nat) (s : Int) (F W : List Int) : Prop where
  nd : F.Nodup
  sound : ∀ v ∈ F, Rch R s v
  wait : ∀ v ∈ W, v = s ∨ v ∈ F
  closed : ∀ u, (u = s ∨ u ∈ F) → u ∉ W → ∀ v, R u v → v ∈ F
  bnd : ∀ v ∈ F, 0 ≤ v ∧ v < n
  len : W.length ≤ F.length + 1
theorem Srch.done {R : Int → Int → Prop} {n : Nat} {s : Int} {F : List Int} (I : Srch R n s F []) (v : Int) : v ∈ F ↔ Rch R s v := by
  refine ⟨I.sound v, fun h => ?_⟩
  induction h with
  | one t => exact I.closed s (.inl rfl) (by simp) _ t
  | more _ t ih => exact I.closed _ (.inr ih) (by simp) _ t
theorem nodup_len : ∀ (n : Nat) (F : List Int), F.Nodup → (∀ v ∈ F, 0 ≤ v ∧ v < n) → F.length ≤ n
  | 0, F, _, h => by
    cases F with
    | nil => simp
    | cons a F => have := h a List.mem_cons_self; omega
  | n + 1, F, nd, h => by
    have h1 : (F.erase (n : Int)).length ≤ n := nodup_len n _ (nd.erase _) fun v hv => by
      have := h v (List.mem_of_mem_erase hv)
      have ne : v ≠ (n : Int) := (nd.mem_erase_iff.mp hv).1
      omega
    by_cases hm : (n : Int) ∈ F
    · rw [List.length_erase_of_mem hm] at h1
      have : 0 < F.length := List.length_pos_of_mem hm
      omega
    · rw [List.erase_of_not_mem hm] at h1; omega
/-- one is taken out, those behind it are put in -/
theorem Srch.step {R : Int → Int → Prop} {n : Nat} {s u : Int} {F W W' new ds : List Int} (I : Srch R n s F W) (hW : ∀ x, x ∈ W ↔ x = u ∨ x ∈ W') (hl : W'.length + 1 ≤ W.length) (hu : u = s ∨ u ∈ F) (hd : ∀ v, v ∈ ds ↔ R u v) (hb : ∀ v, R u v → 0 ≤ v ∧ v < n)
    (nd : (F ++ new).Nodup) (h1 : ∀ v ∈ new, v ∈ ds) (h2 : ∀ v ∈ ds, v ∈ F ++ new) : Srch R n s (F ++ new) (W' ++ new) where
  nd := nd
  sound := fun v hv => by
    rcases List.mem_append.mp hv with h | h
    · exact I.sound v h
    · have t := (hd v).mp (h1 v h)
      rcases hu with e | e
      · subst e; exact .one t
      · exact .more (I.sound u e) t
  wait := fun v hv => by
    rcases List.mem_append.mp hv with h | h
    · rcases I.wait v ((hW v).mpr (.inr h)) with e | e
      · exact .inl e
      · exact .inr (List.mem_append_left _ e)
    · exact .inr (List.mem_append_right _ h)
  closed := fun x hx hn v t => by
    by_cases e : x = u
    · subst e; exact h2 v ((hd v).mpr t)
    · have hnW : x ∉ W := fun z => by
        rcases (hW x).mp z with q | q
        · exact e q
        · exact hn (List.mem_append_left _ q)
      refine List.mem_append_left _ (I.closed x ?_ hnW v t)
      rcases hx with q | q
      · exact .inl q
      · rcases List.mem_append.mp q with q | q
        · exact .inr q
        · exact absurd (List.mem_append_right _ q) hn
  bnd := fun v hv => by
    rcases List.mem_append.mp hv with h | h
    · exact I.bnd v h
    · exact hb v ((hd v).mp (h1 v h))
  len := by
    have := I.len
    simp only [List.length_append]; omega
theorem Srch.start (R : Int → Int → Prop) (n : Nat) (s : Int) : Srch R n s [] [s] where
  nd := .nil
  sound := fun v h => by simp at h
  wait := fun v h => .inl (by simpa using h)
  closed := fun u hu hn => by
    rcases hu with e | e
    · exact absurd (by simp [e]) hn
    · simp at e
  bnd := fun v h => by simp at h
  len := by simp

/-! ### reach -/
def fk (F : List Int) : List (Key × D) := F.map fun v => (.inl v, .bl true)
theorem valD_fk (v : Int) : ∀ F : List Int, (valD (fk F) (.inl v)).isSome = decide (v ∈ F)
  | [] => rfl
  | a :: F => by
    have ih := valD_fk v F
    unfold valD at ih ⊢
    unfold fk at ih ⊢
    rw [List.map_cons, List.find?_cons]
    by_cases h : a = v
    · subst h; simp
    · have e : decide ((Sum.inl a : Key) = Sum.inl v) = false := by
        simp [h]
      simp only [e]
      rw [ih]
      simp [Ne.symm h]
theorem putD_fk (v : Int) (F : List Int) (h : v ∉ F) : putD (fk F) (.inl v) (.bl true) = fk (F ++ [v]) := by
  unfold putD
  have e : ((fk F).any fun kv => decide (kv.1 = (Sum.inl v : Key))) = false := by
    rw [List.any_eq_false]
    intro kv hkv
    unfold fk at hkv
    obtain ⟨a, ha, rfl⟩ := List.mem_map.mp hkv
    have : a ≠ v := fun z => h (z ▸ ha)
    simp [this]
  rw [e]
  simp [fk]
theorem intKeys_fk : ∀ F : List Int, intKeys (fk F) = some F
  | [] => rfl
  | a :: F => by
    have ih := intKeys_fk F
    unfold intKeys fk at *
    rw [List.map_cons, List.mapM_cons, ih]; rfl
theorem gNe_empty {st : Store} {m : Nat} (W : List Int) (h : st[m]? = some (.lst (W.map .int))) : gNe (.v (.ref m)) (.o (.lst [])) st = .ok (.v (.bl (!W.isEmpty))) st := by
  have e : R.toP st 60 (.v (.ref m)) = some (.list (W.map PyData.int)) := by
    simp only [R.toP, D.toP, h, mapM_ints, Option.map_some]
  have e2 : R.toP st 60 (.o (.lst [])) = some (.list []) := rfl
  simp only [gNe, e, e2]
  cases W with
  | nil => rfl
  | cons a W => rfl
theorem get_app0 (st : Store) (a b : O) : (st ++ [a, b])[st.length]? = some a := by simp
theorem get_app1 (st : Store) (a b : O) : (st ++ [a, b])[st.length + 1]? = some b := by
  rw [List.getElem?_append_right (by omega)]; simp
theorem set_app0 (st : Store) (a b c : O) : (st ++ [a, b]).set st.length c = st ++ [c, b] := by
  rw [List.set_append_right _ _ (by omega)]; simp
theorem set_app1 (st : Store) (a b c : O) : (st ++ [a, b]).set (st.length + 1) c = st ++ [a, c] := by
  rw [List.set_append_right _ _ (by omega)]; simp
theorem mem_outs (E : E2) (u v : Int) : v ∈ outs E u ↔ (u, v) ∈ E := by
  unfold outs
  constructor
  · intro h
    obtain ⟨p, hp, e⟩ := List.mem_map.mp h
    obtain ⟨h1, h2⟩ := List.mem_filter.mp hp
    have : p.1 = u := by simpa using h2
    cases p; simp at this e; subst this e; exact h1
  · intro h
    exact List.mem_map.mpr ⟨(u, v), List.mem_filter.mpr ⟨h, by simp⟩, rfl⟩
def rE (E : E2) (a b : Int) : Prop := (a, b) ∈ E
/-- all lines lie within n stations, and are not too many -/
structure EOk (n : Nat) (E : E2) : Prop where
  bnd : ∀ p ∈ E, (0 ≤ p.1 ∧ p.1 < n) ∧ 0 ≤ p.2 ∧ p.2 < n
  len : E.length < 1000000
  small : n < 60
abbrev evR (tr : List Int) (E : E2) (s : Int) (st : Store) (o : Option D) : Fx.Env := [some (netD tr E), some (.int s), some (.ref st.length), some (.ref (st.length + 1)), o]
abbrev stoR (st : Store) (F W : List Int) : Store := st ++ [.dK (fk F), .lst (W.map .int)]
def muR (n L : Nat) (s : Store) : Nat := match s[L]?, s[L + 1]? with
  | some (.dK kvs), some (.lst xs) => 2 * (n - kvs.length) + xs.length
  | _, _ => 0
theorem muR_eq (n : Nat) (st : Store) (F W : List Int) : muR n st.length (stoR st F W) = 2 * (n - F.length) + W.length := by
  unfold muR
  rw [get_app0, get_app1]
  simp [fk]
theorem F_reach_eq {n : Nat} (tr : List Int) (E : E2) (s : Int) (st : Store) (hE : EOk n E) :
    ∃ L : List Int, F_reach [netD tr E, .int s] st = .ok (.v (.tup (L.map .int))) st ∧ ∀ v, v ∈ L ↔ Rch (rE E) s v := by
  have e : F_reach [netD tr E, .int s] st = gc st (retOf (B_reach [some (netD tr E), some (.int s), none, none, none] st)) := rfl
  -- the walk over those behind one
  have inner : ∀ (F W' ds : List Int), F.Nodup → F.length < 60 → W'.length < 70 → ds.length < 1000000 → (∀ v ∈ ds, 0 ≤ v ∧ v < n) → (∀ v ∈ F, 0 ≤ v ∧ v < n) → W'.length ≤ F.length + 1 →
      ∃ new x, forL Sq.any (tgN 4) L_reach_1 (evR tr E s st none) (ds.map .int) (evR tr E s st none) (stoR st F W') = .next (evR tr E s st x) (stoR st (F ++ new) (W' ++ new)) ∧ (F ++ new).Nodup ∧ (∀ v ∈ new, v ∈ ds) ∧ (∀ v ∈ ds, v ∈ F ++ new) ∧ x = none := by
    intro F W' ds nd hF hW hds hb hFb hWF
    obtain ⟨e1, s1, h1, h2⟩ := forL_inv (ok := Sq.any) (tg := tgN 4) (body := L_reach_1) (e0 := evR tr E s st none) (fun rest env st1 => ∃ new x todo, env = evR tr E s st x ∧ rest = todo.map .int ∧ st1 = stoR st (F ++ new) (W' ++ new) ∧ (F ++ new).Nodup ∧ (∀ v ∈ new, v ∈ ds) ∧ (∀ v ∈ todo, v ∈ ds) ∧ (∀ v ∈ ds, v ∈ todo ∨ v ∈ F ++ new))
      (fun rest env st1 ⟨new, x, todo, h, _⟩ => ⟨trivial, by rw [h]; rfl⟩) (fun d rest env st1 ⟨new, x, todo, he, hr, hs, hnd, hn1, hn2, hn3⟩ => by
        cases todo with
        | nil => simp at hr
        | cons v todo =>
          simp only [List.map_cons, List.cons.injEq] at hr
          obtain ⟨rfl, rfl⟩ := hr
          subst he hs
          refine ⟨evR tr E s st (some (.int v)), rfl, ?_⟩
          have hin : inP (stoR st (F ++ new) (W' ++ new)) (.v (.int v)) (.v (.ref st.length)) = some (decide (v ∈ F ++ new)) := by
            rw [inP_dK v (get_app0 _ _ _), valD_fk]
          have hlen : (F ++ new).length ≤ n := nodup_len n _ hnd fun z hz => by
            rcases List.mem_append.mp hz with q | q
            · exact hFb z q
            · exact hb z (hn1 z q)
          have hc : (fTrue (fBin gNotIn (fName 4) (fName 2))) (evR tr E s st (some (.int v))) (stoR st (F ++ new) (W' ++ new)) = .ok (!decide (v ∈ F ++ new)) (stoR st (F ++ new) (W' ++ new)) := by
            simp only [fTrue, fBin, fName, evR, Out.bind, List.getElem?_cons_succ, List.getElem?_cons_zero, gNotIn, hin, asB_bl]
          by_cases hv : v ∈ F ++ new
          · refine ⟨evR tr E s st (some (.int v)), stoR st (F ++ new) (W' ++ new), .inl ?_, new, _, todo, rfl, rfl, rfl, hnd, hn1, fun z hz => hn2 z (List.mem_cons_of_mem _ hz), fun z hz => ?_⟩
            · unfold L_reach_1 fIfS
              simp [hc, hv, Out.thenS, fSkip]
            · rcases hn3 z hz with q | q
              · rcases List.mem_cons.mp q with q | q
                · subst q; exact .inr hv
                · exact .inl q
              · exact .inr q
          · refine ⟨evR tr E s st (some (.int v)), stoR st (F ++ (new ++ [v])) (W' ++ (new ++ [v])), .inl ?_, new ++ [v], _, todo, rfl, rfl, rfl, ?_, fun z hz => ?_, fun z hz => hn2 z (List.mem_cons_of_mem _ hz), fun z hz => ?_⟩
            · have hn : (fk (F ++ new)).length < 1000000 := by simp only [fk, List.length_map]; have := hE.small; omega
              have hl2 : (W' ++ new).length < 1000000 := by
                simp only [List.length_append] at hlen ⊢
                have := hE.small; omega
              have hput : Fx.putAt (.v (.ref st.length)) (.v (.int v)) (.bl true) (stoR st (F ++ new) (W' ++ new)) = some (stoR st (F ++ new ++ [v]) (W' ++ new)) := by
                unfold Fx.putAt
                simp only [get_app0, if_pos hn, D.key, Option.map_some, set_app0, putD_fk v _ hv]
              have happ := app_int (st := stoR st (F ++ new ++ [v]) (W' ++ new)) v (get_app1 _ _ _) hl2
              rw [set_app1] at happ
              unfold L_reach_1
              rw [ex_if hc]
              rw [if_pos (by simp [hv]), ex_seq (ex_put ev_c (ev_name rfl) (ev_name rfl) hput), ex_expr ((ev_meth1 (ev_name rfl) (seqL_ref (get_app1 _ _ _)) (ev_name rfl)).trans happ)]
              simp only [stoR, List.append_assoc]
            · have : F ++ (new ++ [v]) = (F ++ new) ++ [v] := by simp
              rw [this]
              exact List.nodup_append.mpr ⟨hnd, by simp, fun a ha b hb => by rw [List.mem_singleton.mp hb]; exact fun z => hv (z ▸ ha)⟩
            · rcases List.mem_append.mp hz with q | q
              · exact hn1 z q
              · rw [List.mem_singleton.mp q]; exact hn2 v List.mem_cons_self
            · rcases hn3 z hz with q | q
              · rcases List.mem_cons.mp q with q | q
                · subst q; exact .inr (by simp)
                · exact .inl q
              · exact .inr (by simp at q ⊢; rcases q with q | q <;> simp [q]))
      (ds.map .int) (evR tr E s st none) (stoR st F W') ⟨[], none, ds, rfl, rfl, by simp, by simpa using nd, by simp, fun v h => h, fun v h => .inl h⟩
    obtain ⟨new, x, todo, rfl, hr, rfl, q1, q2, q3, q4⟩ := h2
    have ht : todo = [] := by cases todo with
      | nil => rfl
      | cons a b => simp at hr
    subst ht
    refine ⟨new, none, ?_, q1, q2, fun v hv => ?_, rfl⟩
    · rw [h1]; rfl
    · rcases q4 v hv with q | q
      · simp at q
      · exact q
  have stepW : ∀ env st1, (∃ F W, env = evR tr E s st none ∧ st1 = stoR st F W ∧ Srch (rE E) n s F W) → (∃ st2, (fTrue (fBin gNe (fName 3) (fLst fNil))) env st1 = .ok false st2 ∧ ∃ F, env = evR tr E s st none ∧ st2 = stoR st F [] ∧ Srch (rE E) n s F []) ∨
      ∃ st2 e' s', (fTrue (fBin gNe (fName 3) (fLst fNil))) env st1 = .ok true st2 ∧ W_reach_1 env st2 = .next e' s' ∧ (evR tr E s st none).length = e'.length ∧ (∃ F W, scope (evR tr E s st none) e' = evR tr E s st none ∧ s' = stoR st F W ∧ Srch (rE E) n s F W) ∧
        muR n st.length s' < muR n st.length st1 := by
    rintro env st1 ⟨F, W, rfl, rfl, I⟩
    have hc : (fTrue (fBin gNe (fName 3) (fLst fNil))) (evR tr E s st none) (stoR st F W) = .ok (!W.isEmpty) (stoR st F W) := ev_true ((ev_bin (ev_name rfl) (ev_lst ev_nil (by simp))).trans (gNe_empty W (get_app1 _ _ _)))
    rcases List.eq_nil_or_concat W with e0 | ⟨W', u, e0⟩
    · subst e0
      exact .inl ⟨_, hc, F, rfl, rfl, I⟩
    · have e0' : W = W' ++ [u] := by rw [e0]; simp
      clear e0
      subst e0'
      have hu : u = s ∨ u ∈ F := I.wait u (by simp)
      have hds : ∀ v, v ∈ outs E u ↔ rE E u v := mem_outs E u
      have hb : ∀ v, rE E u v → 0 ≤ v ∧ v < n := fun v h => (hE.bnd _ h).2
      have hFl := nodup_len n F I.nd I.bnd
      have hIl := I.len
      simp only [List.length_append, List.length_cons, List.length_nil] at hIl
      have hsm := hE.small
      obtain ⟨new, x, h1, q1, q2, q3, rfl⟩ := inner F W' (outs E u) I.nd (by omega) (by omega) (by
        unfold outs
        rw [List.length_map]
        exact Nat.lt_of_le_of_lt (List.length_filter_le _ _) hE.len) (fun v hv => hb v ((hds v).mp hv)) I.bnd (by omega)
      have I2 := I.step (u := u) (W' := W') (ds := outs E u) (fun x => by simp [or_comm]) (by simp) hu hds hb q1 q2 q3
      have hpop : gPop (.v (.ref (st.length + 1))) (stoR st F (W' ++ [u])) = .ok (.v (.int u)) (stoR st F W') := by
        have := pop_last (st := stoR st F (W' ++ [u])) (n := st.length + 1) (xs := W'.map .int) (d := .int u) (by rw [get_app1]; simp)
        rw [set_app1] at this; exact this
      have hargs : (fCons (fName 0) (fCons (fMeth0 gPop (fName 3)) fNil)) (evR tr E s st none) (stoR st F (W' ++ [u])) = .ok [netD tr E, .int u] (stoR st F W') :=
        ev_consV (ev_name rfl) (ev_consV ((ev_meth0 (ev_name rfl) (seqL_ref (get_app1 _ _ _))).trans hpop) ev_nil)
      have hcall : (fCall F_nexts (fCons (fName 0) (fCons (fMeth0 gPop (fName 3)) fNil))) (evR tr E s st none) (stoR st F (W' ++ [u])) = .ok (.v (.tup ((outs E u).map .int))) (stoR st F W') := by
        rw [ev_call hargs (F_nexts_eq tr E u _ (Nat.le_of_lt hE.len))]
        refine gc_eq (by simp) (fun i o h => ?_) (bl_tints _)
        have e1 : stoR st F W' = (stoR st F (W' ++ [u])).set (st.length + 1) (.lst (W'.map .int)) := (set_app1 _ _ _ _).symm
        rw [e1] at h
        exact set_old (show OBl _ (.lst (W'.map .int)) from bls_ints _) i o h
      have hbody : W_reach_1 (evR tr E s st none) (stoR st F (W' ++ [u])) = .next (evR tr E s st none) (stoR st (F ++ new) (W' ++ new)) := by
        unfold W_reach_1
        rw [ex_for ((ev_it hcall).trans rfl)]
        exact h1
      refine .inr ⟨_, _, _, ?_, hbody, rfl, ⟨_, _, rfl, rfl, I2⟩, ?_⟩
      · rw [hc]; simp
      · have hFl2 := nodup_len n _ I2.nd I2.bnd
        rw [muR_eq, muR_eq]
        simp only [List.length_append, List.length_cons, List.length_nil] at hFl2 ⊢
        omega
  obtain ⟨e', s', h1, F, rfl, rfl, I⟩ := fWhile_inv (c := fTrue (fBin gNe (fName 3) (fLst fNil))) (body := W_reach_1) (e0 := evR tr E s st none) (st := stoR st [] [s]) (fun env st1 => ∃ F W, env = evR tr E s st none ∧ st1 = stoR st F W ∧ Srch (rE E) n s F W)
    (fun env st2 => ∃ F, env = evR tr E s st none ∧ st2 = stoR st F [] ∧ Srch (rE E) n s F [])
    (fun _ s' => muR n st.length s') ⟨[], [s], rfl, rfl, Srch.start _ _ _⟩ stepW
  have hFl := nodup_len n F I.nd I.bnd
  refine ⟨srt ltI F, ?_, fun v => (srt_perm F).mem_iff.trans (I.done v)⟩
  rw [e]
  unfold B_reach
  have p1 : fPar 2 3 (fCons fDK (fCons (fLst (fCons (fName 1) fNil)) fNil)) [some (netD tr E), some (.int s), none, none, none] st = .next (evR tr E s st none) (stoR st [] [s]) := by
    rw [ex_par (ev_consO (x := .dK []) rfl (ev_consO (ev_lst (ev_consV (ev_name rfl) ev_nil) (by simp)) ev_nil))]
    simp [evR, stoR, fk]
  rw [ex_seq p1, ex_seq h1]
  have hs : gSorted (.v (.ref st.length)) (stoR st F []) = .ok (.o (.lst ((srt ltI F).map .int))) (stoR st F []) := by
    unfold gSorted
    have hsm := hE.small
    simp only [objOf_ref, get_app0, intKeys_fk]
    rw [if_pos (by omega)]
  have ht : fCall1 gTuple (fCall1 gSorted (fName 2)) (evR tr E s st none) (stoR st F []) = .ok (.v (.tup ((srt ltI F).map .int))) (stoR st F []) := (ev_call1 ((ev_call1 (ev_name rfl)).trans hs)).trans rfl
  rw [ex_ret ht]
  exact gc_new (bl_tints _)
end K41

set_option Elab.async false
set_option linter.all false
set_option maxRecDepth 100000
set_option maxHeartbeats 4000000
set_option autoImplicit false
namespace K41
open PySem PySem.Spec PyProof.Rows L2 Fx
def rngI (n : Nat) : List Int := (List.range n).map fun (i : Nat) => (i : Int)
open Classical in
noncomputable def gp (E : E2) (s o : Int) : Bool := decide (o ≠ s ∧ ¬ Rch (rE (bareE E o)) s s)
noncomputable def gatesL (n : Nat) (E : E2) (s : Int) : List Int := (rngI n).filter (gp E s)
open Classical in
noncomputable def gatesD (n : Nat) (E : E2) (s : Int) : D := if Rch (rE E) s s then .tup ((gatesL n E s).map .int) else .non
theorem rngD_eq (n : Nat) : rngD 0 ((n : Int).toNat) = (rngI n).map .int := by
  unfold rngD rngI
  rw [List.map_map, Int.toNat_natCast]
  refine List.map_congr_left fun i _ => ?_
  show D.int (0 + (i : Int)) = .int (i : Int)
  rw [Int.zero_add]
theorem mem_rngI {n : Nat} {v : Int} : v ∈ rngI n ↔ 0 ≤ v ∧ v < n := by
  unfold rngI
  constructor
  · intro h
    obtain ⟨i, hi, rfl⟩ := List.mem_map.mp h
    have := List.mem_range.mp hi
    omega
  · intro h
    exact List.mem_map.mpr ⟨v.toNat, List.mem_range.mpr (by omega), by omega⟩
theorem bareOk {n : Nat} {E : E2} (h : EOk n E) (o : Int) : EOk n (bareE E o) := ⟨fun p hp => h.bnd p (List.mem_filter.mp hp).1, Nat.lt_of_le_of_lt (List.length_filter_le _ _) h.len, h.small⟩
theorem gNe_int {st : Store} (a b : Int) : gNe (.v (.int a)) (.v (.int b)) st = .ok (.v (.bl (!decide (a = b)))) st := by
  have : (a == b) = decide (a = b) := by rw [Bool.eq_iff_iff]; simp
  simp [gNe, R.toP, D.toP, PyData.eqv, this]
theorem gEq_int {st : Store} (a b : Int) : gEq (.v (.int a)) (.v (.int b)) st = .ok (.v (.bl (decide (a = b)))) st := by
  have : (a == b) = decide (a = b) := by rw [Bool.eq_iff_iff]; simp
  simp [gEq, R.toP, D.toP, PyData.eqv, this]
theorem gNotIn_tup {st : Store} (s : Int) (L : List Int) : gNotIn (.v (.int s)) (.v (.tup (L.map .int))) st = .ok (.v (.bl (!decide (s ∈ L)))) st := by
  unfold gNotIn; rw [inP_tup]
theorem len_net {tr : List Int} {E : E2} {env : Fx.Env} {st : Store} (h : env[0]? = some (some (netD tr E))) : (fCall1 gLen (fBin gIx (fName 0) (fC (.int 0)))) env st = .ok (.v (.int (tr.length : Int))) st := by
  have e1 : (fBin gIx (fName 0) (fC (.int 0))) env st = .ok (.v (.tup (tr.map .int))) st := (ev_bin (ev_name h) ev_c).trans (ix_tup (i := 0) rfl)
  rw [ev_call1 e1]
  simp [gLen]
open Classical in
theorem F_gates_eq {n : Nat} (tr : List Int) (E : E2) (s : Int) (st : Store) (hE : EOk n E) (hn : tr.length = n) : F_gates [netD tr E, .int s] st = .ok (.v (gatesD n E s)) st := by
  have e : F_gates [netD tr E, .int s] st = gc st (retOf (B_gates [some (netD tr E), some (.int s), none, none] st)) := rfl
  rw [e]
  have hsm := hE.small
  obtain ⟨L, r1, r2⟩ := F_reach_eq tr E s st hE
  have c1 : (fTrue (fBin gNotIn (fName 1) (fCall F_reach (fCons (fName 0) (fCons (fName 1) fNil))))) [some (netD tr E), some (.int s), none, none] st = .ok (!decide (Rch (rE E) s s)) st := by
    refine ev_true ((ev_bin (ev_name rfl) (ev_callS (ev_consV (ev_name rfl) (ev_consV (ev_name rfl) ev_nil)) r1)).trans ?_)
    rw [gNotIn_tup]
    have : decide (s ∈ L) = decide (Rch (rE E) s s) := by rw [decide_eq_decide]; exact r2 s
    rw [this]
  unfold B_gates gatesD
  by_cases hr : Rch (rE E) s s
  · rw [if_pos hr, ex_seq (e1 := [some (netD tr E), some (.int s), none, none]) (st1 := st) (by rw [ex_if c1]; simp [hr, fSkip])]
    rw [ex_seq (ex_setO (ev_lst ev_nil (by simp)))]
    have hrng : (fRng1 (fCall1 gLen (fBin gIx (fName 0) (fC (.int 0))))) ([some (netD tr E), some (.int s), some (.ref st.length), none]) (st ++ [.lst []]) = .ok ⟨(rngI n).map .int, Sq.any⟩ (st ++ [.lst []]) := by
      rw [ev_rng1 (len_net rfl) (by omega), hn, rngD_eq]
    obtain ⟨e', s', h1, done, todo, x, k1, k2, k3, k4⟩ := forL_inv (ok := Sq.any) (tg := tgN 3) (body := L_gates_1) (e0 := [some (netD tr E), some (.int s), some (.ref st.length), none])
      (fun rest env st1 => ∃ done todo x, rngI n = done ++ todo ∧ rest = todo.map .int ∧ env = [some (netD tr E), some (.int s), some (.ref st.length), x] ∧ st1 = st ++ [.lst ((done.filter (gp E s)).map .int)])
      (fun rest env st1 ⟨_, _, x, _, _, h, _⟩ => ⟨trivial, by rw [h]; rfl⟩) (fun d rest env st1 ⟨done, todo, x, h1, h2, h3, h4⟩ => by
        cases todo with
        | nil => simp at h2
        | cons o todo =>
          simp only [List.map_cons, List.cons.injEq] at h2
          obtain ⟨rfl, rfl⟩ := h2
          subst h3 h4
          refine ⟨[some (netD tr E), some (.int s), some (.ref st.length), some (.int o)], rfl, ?_⟩
          generalize hst : st ++ [.lst ((done.filter (gp E s)).map .int)] = st1
          obtain ⟨L, r1, r2⟩ := F_reach_eq tr (bareE E o) s st1 (bareOk hE o)
          have a1 : (fTrue (fBin gNe (fName 3) (fName 1))) [some (netD tr E), some (.int s), some (.ref st.length), some (.int o)] st1 = .ok (!decide (o = s)) st1 := ev_true ((ev_bin (ev_name rfl) (ev_name rfl)).trans (gNe_int o s))
          have b1 : (fCall F_bare_at (fCons (fName 0) (fCons (fName 3) fNil))) [some (netD tr E), some (.int s), some (.ref st.length), some (.int o)] st1 = .ok (.v (netD tr (bareE E o))) st1 :=
            ev_callS (ev_consV (ev_name rfl) (ev_consV (ev_name rfl) ev_nil)) (F_bare_eq tr E o st1 (Nat.le_of_lt hE.len))
          have a2 : (fTrue (fBin gNotIn (fName 1) (fCall F_reach (fCons (fCall F_bare_at (fCons (fName 0) (fCons (fName 3) fNil))) (fCons (fName 1) fNil))))) [some (netD tr E), some (.int s), some (.ref st.length), some (.int o)] st1 = .ok (!decide (Rch (rE (bareE E o)) s s)) st1 := by
            refine ev_true ((ev_bin (ev_name rfl) (ev_callS (ev_consV b1 (ev_consV (ev_name rfl) ev_nil)) r1)).trans ?_)
            rw [gNotIn_tup]
            have : decide (s ∈ L) = decide (Rch (rE (bareE E o)) s s) := by rw [decide_eq_decide]; exact r2 s
            rw [this]
          have hp : (fAnd (fTrue (fBin gNe (fName 3) (fName 1))) (fTrue (fBin gNotIn (fName 1) (fCall F_reach (fCons (fCall F_bare_at (fCons (fName 0) (fCons (fName 3) fNil))) (fCons (fName 1) fNil)))))) [some (netD tr E), some (.int s), some (.ref st.length), some (.int o)] st1 = .ok (gp E s o) st1 := by
            rw [ev_and a1, a2]
            unfold gp
            by_cases q : o = s
            · simp [q]
            · simp [q]
          unfold L_gates_1
          by_cases hq' : gp E s o = true
          · have hget : st1[st.length]? = some (.lst ((done.filter (gp E s)).map .int)) := by rw [← hst]; simp
            have hdl : (done.filter (gp E s)).length < 1000000 := by
              have h3 := List.length_filter_le (gp E s) done
              have h4 : (rngI n).length = n := by simp [rngI]
              rw [h1, List.length_append] at h4
              omega
            refine ⟨_, _, .inl (by rw [ex_if hp, if_pos hq']; exact ex_expr ((ev_meth1 (ev_name rfl) (seqL_ref hget) (ev_name rfl)).trans (app_int o hget hdl))), done ++ [o], todo, _, by rw [h1]; simp, rfl, rfl, ?_⟩
            rw [← hst, List.set_append_right _ _ (by omega), List.filter_append, List.filter_cons_of_pos hq']
            simp
          · have hq2 : gp E s o = false := by simpa using hq'
            refine ⟨_, _, .inl (by rw [ex_if hp, hq2]; rfl), done ++ [o], todo, _, by rw [h1]; simp, rfl, rfl, ?_⟩
            rw [← hst, List.filter_append, List.filter_cons_of_neg hq']
            simp)
      ((rngI n).map .int) [some (netD tr E), some (.int s), some (.ref st.length), none] (st ++ [.lst []]) ⟨[], rngI n, none, rfl, rfl, rfl, rfl⟩
    have ht : todo = [] := by cases todo with
      | nil => rfl
      | cons a b => simp at k2
    subst ht k3 k4
    have hfor : fFor (fRng1 (fCall1 gLen (fBin gIx (fName 0) (fC (.int 0))))) (tgN 3) L_gates_1 [some (netD tr E), some (.int s), some (.ref st.length), none] (st ++ [.lst []]) = .next [some (netD tr E), some (.int s), some (.ref st.length), none] (st ++ [.lst ((gatesL n E s).map .int)]) := by
      rw [ex_for hrng]
      have : done = rngI n := by rw [k1]; simp
      subst this
      exact h1
    rw [show ([some (netD tr E), some (.int s), none, none] : Fx.Env).set 2 (some (.ref st.length)) = [some (netD tr E), some (.int s), some (.ref st.length), none] from rfl, ex_seq hfor]
    have hg : (fCall1 gTuple (fName 2)) [some (netD tr E), some (.int s), some (.ref st.length), none] (st ++ [.lst ((gatesL n E s).map .int)]) = .ok (.v (.tup ((gatesL n E s).map .int))) (st ++ [.lst ((gatesL n E s).map .int)]) := by
      rw [ev_call1 (ev_name rfl)]
      unfold gTuple
      simp only [seqL_ref (st := st ++ [.lst ((gatesL n E s).map .int)]) (n := st.length) (xs := (gatesL n E s).map .int) (by simp)]
    rw [ex_ret hg]
    exact gc_new (bl_tints _)
  · rw [if_neg hr, ex_seqR (r := .v .non) (st1 := st) (by rw [ex_if c1]; simp [hr, fRet, fC, Out.thenS])]
    exact gc_same
end K41

set_option Elab.async false
set_option linter.all false
set_option maxRecDepth 100000
set_option maxHeartbeats 4000000
set_option autoImplicit false
namespace K41
open PySem PySem.Spec PyProof.Rows L2 Fx
open Classical in
/-- a round goes through, and there is no gate -/
noncomputable def up (n : Nat) (E : E2) (i : Int) : Bool := decide (Rch (rE E) i i ∧ gatesL n E i = [])
noncomputable def ungL (tr : List Int) (E : E2) : List Int := (rngI tr.length).filter fun i => decide (tr.getD i.toNat 0 = 1) && up tr.length E i
theorem gEq_nil {st : Store} (L : List Int) : gEq (.v (.tup (L.map .int))) (.v (.tup [])) st = .ok (.v (.bl L.isEmpty)) st := by
  have e : R.toP st 60 (.v (.tup (L.map .int))) = some (.tuple (L.map PyData.int)) := by simp only [R.toP, D.toP, mapM_ints, Option.map_some]
  have e2 : R.toP st 60 (.v (.tup [])) = some (.tuple []) := rfl
  simp only [gEq, e, e2]
  cases L with
  | nil => rfl
  | cons a L => rfl
open Classical in
theorem gEq_gates {st : Store} (n : Nat) (E : E2) (i : Int) : gEq (.v (gatesD n E i)) (.v (.tup [])) st = .ok (.v (.bl (up n E i))) st := by
  unfold gatesD up
  by_cases h : Rch (rE E) i i
  · rw [if_pos h, gEq_nil]
    cases e : gatesL n E i with
    | nil => simp [h]
    | cons a L => simp
  · rw [if_neg h]
    have e : gEq (.v .non) (.v (.tup [])) st = .ok (.v (.bl false)) st := rfl
    rw [e]; simp [h]
theorem ev_enum {g : FA} {env : Fx.Env} {st st1 : Store} {d : D} {p : List D × (Store → Prop)} (h1 : g env st = .ok [d] st1) (h2 : side st1 d = some p) : fEnum g env st = .ok ⟨enumD 0 p.1, p.2⟩ st1 := by
  unfold fEnum; rw [h1]; simp only [Out.bind, h2]
theorem ev_tuple {f : FE} {env : Fx.Env} {st st1 : Store} {xs : List D} (h1 : f env st = .ok (.o (.lst xs)) st1) : fCall1 gTuple f env st = .ok (.v (.tup xs)) st1 := by
  rw [ev_call1 h1]; rfl
theorem enumD_rng (tr : List Int) : enumD 0 (tr.map .int) = (rngI tr.length).map fun i => pairD (.int i) (.int (tr.getD i.toNat 0)) := by
  refine List.ext_getElem? fun i => ?_
  rw [enumD_get]
  unfold rngI
  rw [List.map_map, List.getElem?_map, List.getElem?_map]
  by_cases h : i < tr.length
  · rw [List.getElem?_eq_getElem h, List.getElem?_range h]
    simp [List.getD, List.getElem?_eq_getElem h]
  · rw [List.getElem?_eq_none (by omega), List.getElem?_eq_none (by simp; omega)]
    rfl
end K41

set_option Elab.async false
set_option linter.all false
set_option maxRecDepth 100000
set_option maxHeartbeats 4000000
set_option autoImplicit false
namespace K41
open PySem PySem.Spec PyProof.Rows L2 Fx

section
variable {tr : List Int} {E : E2} {env : Fx.Env} {st : Store}
theorem ix0 (h : env[0]? = some (some (netD tr E))) : (fBin gIx (fName 0) (fC (.int 0))) env st = .ok (.v (.tup (tr.map .int))) st := (ev_bin (ev_name h) ev_c).trans (ix_tup (i := 0) rfl)
theorem ix1 (h : env[0]? = some (some (netD tr E))) : (fBin gIx (fName 0) (fC (.int 1))) env st = .ok (.v (.tup (E.map lineD))) st := (ev_bin (ev_name h) ev_c).trans (ix_tup (i := 1) rfl)
theorem it0 (h : env[0]? = some (some (netD tr E))) : (fIt (fBin gIx (fName 0) (fC (.int 0)))) env st = .ok ⟨tr.map .int, Sq.any⟩ st := (ev_it (ix0 h)).trans rfl
theorem it1 (h : env[0]? = some (some (netD tr E))) : (fIt (fBin gIx (fName 0) (fC (.int 1)))) env st = .ok ⟨E.map lineD, Sq.any⟩ st := (ev_it (ix1 h)).trans rfl
end
/-! ### the law's rows of lines -/
def refsD (b n : Nat) : List D := (List.range n).map fun i => .ref (b + i)
def rowsO (n : Nat) (E : E2) : List O := (List.range n).map fun (i : Nat) => .lst ((outs E (i : Int)).map .int)
theorem refsD_get {b n i : Nat} (h : i < n) : (refsD b n)[i]? = some (.ref (b + i)) := by
  unfold refsD; rw [List.getElem?_map, List.getElem?_range h]; rfl
theorem rowsO_get {n i : Nat} {E : E2} (h : i < n) : (rowsO n E)[i]? = some (.lst ((outs E (i : Int)).map .int)) := by
  unfold rowsO; rw [List.getElem?_map, List.getElem?_range h]; rfl
theorem rowsO_len (n : Nat) (E : E2) : (rowsO n E).length = n := by simp [rowsO]
theorem outs_snoc (E : E2) (p : Int × Int) (i : Int) : outs (E ++ [p]) i = outs E i ++ if p.1 = i then [p.2] else [] := by
  unfold outs
  rw [List.filter_append, List.map_append]
  by_cases h : p.1 = i
  · rw [if_pos h, List.filter_cons_of_pos (by simp [h])]; rfl
  · rw [if_neg h, List.filter_cons_of_neg (by simp [h])]; rfl
theorem rowsO_set {n : Nat} {E : E2} {p : Int × Int} {o : Nat} (ho : p.1 = (o : Int)) (h : o < n) : (rowsO n E).set o (.lst ((outs E p.1 ++ [p.2]).map .int)) = rowsO n (E ++ [p]) := by
  refine List.ext_getElem? fun i => ?_
  by_cases e : o = i
  · subst e
    rw [List.getElem?_set_self (by rw [rowsO_len]; exact h), rowsO_get h, outs_snoc, ho, if_pos rfl]
  · rw [List.getElem?_set_ne e]
    by_cases hi : i < n
    · rw [rowsO_get hi, rowsO_get hi, outs_snoc, if_neg (by omega)]; simp
    · rw [List.getElem?_eq_none (by rw [rowsO_len]; omega), List.getElem?_eq_none (by rw [rowsO_len]; omega)]
theorem compL_fresh {tg : FG} {e0 : Fx.Env} (htg : ∀ d, (tg d e0).isSome) : ∀ (ds acc : List D) (st : Store), acc.length + ds.length ≤ 1000000 →
    compL Sq.any tg fYes (fLst fNil) e0 ds acc st = .ok (.o (.lst (acc ++ refsD st.length ds.length))) (st ++ List.replicate ds.length (.lst []))
  | [], acc, st, _ => by
    unfold compL
    rw [if_pos trivial]
    simp [refsD]
  | d :: ds, acc, st, h => by
    simp only [List.length_cons] at h
    obtain ⟨e1, he⟩ := Option.isSome_iff_exists.mp (htg d)
    unfold compL
    rw [if_pos trivial, he]
    have h1 : fLst fNil e1 st = .ok (.o (.lst [])) st := ev_lst ev_nil (by simp)
    simp only [fYes, h1, Out.nox_ok, Out.bind, if_true]
    rw [if_pos (by omega)]
    simp only [alloc_o]
    rw [compL_fresh htg ds _ _ (by simp; omega)]
    have e2 : acc ++ [D.ref st.length] ++ refsD (st ++ [O.lst []]).length ds.length = acc ++ refsD st.length (ds.length + 1) := by
      unfold refsD
      rw [List.range_succ_eq_map, List.map_cons, List.map_map, List.append_assoc]
      congr 1
      simp only [List.length_append, List.length_cons, List.length_nil, List.cons_append, List.nil_append, Nat.add_zero, List.cons.injEq, true_and]
      refine List.map_congr_left fun i _ => ?_
      show D.ref (st.length + (0 + 1) + i) = D.ref (st.length + (i + 1))
      rw [show st.length + (0 + 1) + i = st.length + (i + 1) by omega]
    rw [e2]
    simp [List.replicate_succ]
abbrev stO (st : Store) (n : Nat) (E : E2) : Store := st ++ (rowsO n E ++ [.lst (refsD st.length n)])
theorem stO_last (st : Store) (n : Nat) (E : E2) : (stO st n E)[st.length + n]? = some (.lst (refsD st.length n)) := by
  unfold stO
  rw [List.getElem?_append_right (by omega), List.getElem?_append_right (by rw [rowsO_len]; omega), rowsO_len]
  simp
theorem stO_row (st : Store) {n i : Nat} (E : E2) (h : i < n) : (stO st n E)[st.length + i]? = some (.lst ((outs E (i : Int)).map .int)) := by
  unfold stO
  rw [List.getElem?_append_right (by omega), List.getElem?_append_left (by rw [rowsO_len]; omega), show st.length + i - st.length = i by omega, rowsO_get h]
theorem stO_keep {st : Store} {n : Nat} {E : E2} (hn : 1 ≤ n) : gc st (.ok (.v (.ref (st.length + n))) (stO st n E)) = .ok (.v (.ref (st.length + n))) (stO st n E) := by
  refine gc_refKeep (stO_last st n E) (fun b => ?_) (by omega)
  have := Bls.mem b (.ref (st.length + 0)) (List.mem_of_getElem? (refsD_get (b := st.length) (n := n) (i := 0) (by omega)))
  cases this with
  | ref h => omega
theorem F_out_eq {n : Nat} (tr : List Int) (E : E2) (st : Store) (hE : EOk n E) (hn : tr.length = n) (h1 : 1 ≤ n) : F_law_out [netD tr E] st = .ok (.v (.ref (st.length + n))) (stO st n E) := by
  have hsm := hE.small
  have e : F_law_out [netD tr E] st = gc st (retOf (B_law_out [some (netD tr E), none, none, none, none] st)) := rfl
  rw [e]
  unfold B_law_out
  have hc : (fComp (fIt (fBin gIx (fName 0) (fC (.int 0)))) (tgN 4) fYes (fLst fNil) [4]) [some (netD tr E), none, none, none, none] st = .ok (.o (.lst (refsD st.length n))) (st ++ List.replicate n (.lst [])) := by
    rw [ev_comp (it0 (tr := tr) (E := E) rfl)]
    have := compL_fresh (tg := tgN 4) (e0 := wipeE [some (netD tr E), none, none, none, none] [4]) (fun d => rfl) (tr.map .int) [] st (by simp; omega)
    rw [List.length_map, hn] at this
    exact this
  have e0 : st ++ List.replicate n (.lst []) ++ [.lst (refsD st.length n)] = stO st n [] := by
    unfold stO
    rw [List.append_assoc]
    congr 2
    refine List.ext_getElem? fun i => ?_
    by_cases hi : i < n
    · rw [rowsO_get hi, List.getElem?_replicate, if_pos hi]; rfl
    · rw [List.getElem?_eq_none (by simp; omega), List.getElem?_eq_none (by rw [rowsO_len]; omega)]
  have hset := ex_setO (k := 1) hc
  rw [e0] at hset
  have hl : (st ++ List.replicate n (O.lst [])).length = st.length + n := by simp
  rw [hl] at hset
  rw [ex_seq hset]
  have hit : (fIt (fBin gIx (fName 0) (fC (.int 1)))) (List.set [some (netD tr E), none, none, none, none] 1 (some (.ref (st.length + n)))) (stO st n []) = .ok ⟨E.map lineD, Sq.any⟩ (stO st n []) := it1 rfl
  obtain ⟨e', s', k, done, todo, x, y, q1, q2, q3, q4⟩ := forL_inv (ok := Sq.any) (tg := tgT (tgCons (tgN 2) (tgCons (tgN 3) tgNil))) (body := L_law_out_1) (e0 := [some (netD tr E), some (.ref (st.length + n)), none, none, none])
    (fun rest env st1 => ∃ done todo x y, E = done ++ todo ∧ rest = todo.map lineD ∧ env = [some (netD tr E), some (.ref (st.length + n)), x, y, none] ∧ st1 = stO st n done) (fun rest env st1 ⟨_, _, x, y, _, _, h, _⟩ => ⟨trivial, by rw [h]; rfl⟩)
    (fun d rest env st1 ⟨done, todo, x, y, h1, h2, h3, h4⟩ => by
      cases todo with
      | nil => simp at h2
      | cons p todo =>
        simp only [List.map_cons, List.cons.injEq] at h2
        obtain ⟨rfl, rfl⟩ := h2
        subst h3 h4
        obtain ⟨⟨b1, b2⟩, _⟩ := hE.bnd p (by rw [h1]; simp)
        obtain ⟨o, ho⟩ : ∃ o : Nat, p.1 = (o : Int) := ⟨p.1.toNat, by omega⟩
        have hon : o < n := by omega
        have hrow := stO_row st done hon
        rw [← ho] at hrow
        have hlen : (outs done p.1).length < 1000000 := by
          have h3 := List.length_filter_le (fun q : Int × Int => decide (q.1 = p.1)) done
          have h4 := hE.len
          rw [h1, List.length_append] at h4
          unfold outs
          rw [List.length_map]; omega
        refine ⟨[some (netD tr E), some (.ref (st.length + n)), some (.int p.1), some (.int p.2), none], rfl, [some (netD tr E), some (.ref (st.length + n)), some (.int p.1), some (.int p.2), none], stO st n (done ++ [p]), .inl ?_, done ++ [p], todo, some (.int p.1), some (.int p.2), by rw [h1]; simp, rfl, rfl, rfl⟩
        unfold L_law_out_1
        have hix : (fBin gIx (fName 1) (fName 2)) [some (netD tr E), some (.ref (st.length + n)), some (.int p.1), some (.int p.2), none] (stO st n done) = .ok (.v (.ref (st.length + o))) (stO st n done) := by
          have := ix_lst (stO_last st n done) (refsD_get (b := st.length) hon)
          rw [← ho] at this
          exact (ev_bin (ev_name rfl) (ev_name rfl)).trans this
        have hap := app_int p.2 hrow hlen
        have es : (stO st n done).set (st.length + o) (.lst ((outs done p.1 ++ [p.2]).map .int)) = stO st n (done ++ [p]) := by
          unfold stO
          rw [List.set_append_right _ _ (by omega), show st.length + o - st.length = o by omega, List.set_append_left _ _ (by rw [rowsO_len]; omega), rowsO_set ho hon]
        rw [es] at hap
        exact ex_expr ((ev_meth1 hix (seqL_ref hrow) (ev_name rfl)).trans hap))
    (E.map lineD) [some (netD tr E), some (.ref (st.length + n)), none, none, none] (stO st n []) ⟨[], E, none, none, rfl, rfl, rfl, rfl⟩
  have ht : todo = [] := by cases todo with
    | nil => rfl
    | cons a b => simp at q2
  subst ht q3 q4
  have : done = E := by rw [q1]; simp
  subst this
  rw [ex_seq ((ex_for hit).trans k), ex_ret (ev_name rfl)]
  exact stO_keep h1
end K41

set_option Elab.async false
set_option linter.all false
set_option maxRecDepth 100000
set_option maxHeartbeats 4000000
set_option autoImplicit false
namespace K41
open PySem PySem.Spec PyProof.Rows L2 Fx

def barD : Option Int → D
  | none => .non
  | some o => .int o
def barB (b : Option Int) (v : Int) : Bool := match b with
  | none => false
  | some o => decide (v = o)
def rB (E : E2) (b : Option Int) (u v : Int) : Prop := (u, v) ∈ E ∧ barB b v = false
/-- the rows of lines stand at b .., their list at a -/
structure OutAt (st : Store) (a b n : Nat) (E : E2) : Prop where
  lst : st[a]? = some (.lst (refsD b n))
  row : ∀ i : Nat, i < n → st[b + i]? = some (.lst ((outs E (i : Int)).map .int))
  la : a < st.length
theorem gNe_bar {st : Store} (v : Int) (b : Option Int) : gNe (.v (.int v)) (.v (barD b)) st = .ok (.v (.bl (!barB b v))) st := by
  cases b with
  | none => rfl
  | some o => exact gNe_int v o
abbrev stC (st : Store) (F new : List Int) (G : Store) : Store := st ++ (.lst ((F ++ new).map .int) :: (G ++ [.lst (new.map .int)]))
theorem stC_found (st : Store) (F new : List Int) (G : Store) : (stC st F new G)[st.length]? = some (.lst ((F ++ new).map .int)) := by
  rw [List.getElem?_append_right (by omega)]; simp
theorem stC_fresh (st : Store) (F new : List Int) (G : Store) : (stC st F new G)[st.length + 1 + G.length]? = some (.lst (new.map .int)) := by
  rw [List.getElem?_append_right (by omega), show st.length + 1 + G.length - st.length = G.length + 1 by omega]
  simp
theorem stC_old (st : Store) (F new : List Int) (G : Store) {i : Nat} (h : i < st.length) : (stC st F new G)[i]? = st[i]? := List.getElem?_append_left h
theorem stC_G (st : Store) (F new : List Int) (G : Store) {j : Nat} (h : j < G.length) : (stC st F new G)[st.length + 1 + j]? = G[j]? := by
  rw [List.getElem?_append_right (by omega), show st.length + 1 + j - st.length = j + 1 by omega, List.getElem?_cons_succ, List.getElem?_append_left h]
theorem stC_set (st : Store) (F new : List Int) (G : Store) (v : Int) :
    ((stC st F new G).set st.length (.lst ((F ++ new ++ [v]).map .int))).set (st.length + 1 + G.length) (.lst ((new ++ [v]).map .int)) = stC st F (new ++ [v]) G := by
  unfold stC
  rw [List.set_append_right _ _ (by omega), show st.length - st.length = 0 by omega, List.set_cons_zero, List.set_append_right _ _ (by omega), show st.length + 1 + G.length - st.length = G.length + 1 by omega, List.set_cons_succ, List.set_append_right _ _ (by omega)]
  simp
/-- one station's lines -/
theorem come_in (n : Nat) (st : Store) (a : Nat) (s : Int) (bar : Option Int) (F : List Int) (G : Store) (w : D) (hn : n < 60) (hFb : ∀ v ∈ F, 0 ≤ v ∧ v < n) (ok : Store → Prop) (hok : ∀ new, ok (stC st F new G)) (u : Int) :
    ∀ (ds new : List Int), (F ++ new).Nodup → (∀ v ∈ new, 0 ≤ v ∧ v < n) → (∀ v ∈ ds, 0 ≤ v ∧ v < n) →
      ∃ more, forL ok (tgN 7) L_law_come_1 [some (.ref a), some (.int s), some (barD bar), some (.ref st.length), some w, some (.ref (st.length + 1 + G.length)), some (.int u), none] (ds.map .int)
          [some (.ref a), some (.int s), some (barD bar), some (.ref st.length), some w, some (.ref (st.length + 1 + G.length)), some (.int u), none] (stC st F new G)
        = .next [some (.ref a), some (.int s), some (barD bar), some (.ref st.length), some w, some (.ref (st.length + 1 + G.length)), some (.int u), none] (stC st F (new ++ more) G) ∧
        (F ++ (new ++ more)).Nodup ∧ (∀ v ∈ more, v ∈ ds ∧ barB bar v = false) ∧ ∀ v ∈ ds, barB bar v = false → v ∈ F ++ (new ++ more) := by
  intro ds new nd hnb hdb
  obtain ⟨e', s', k, more, todo, x, q1, q2, q3, q4, q5, q6, q7⟩ := forL_inv (ok := ok) (tg := tgN 7) (body := L_law_come_1) (e0 := [some (.ref a), some (.int s), some (barD bar), some (.ref st.length), some w, some (.ref (st.length + 1 + G.length)), some (.int u), none])
    (fun rest env st1 => ∃ more todo x, rest = todo.map .int ∧ env = [some (.ref a), some (.int s), some (barD bar), some (.ref st.length), some w, some (.ref (st.length + 1 + G.length)), some (.int u), x] ∧ st1 = stC st F (new ++ more) G ∧ (F ++ (new ++ more)).Nodup ∧ (∀ v ∈ more, v ∈ ds ∧ barB bar v = false) ∧ (∀ v ∈ todo, v ∈ ds) ∧ ∀ v ∈ ds, barB bar v = false → v ∈ todo ∨ v ∈ F ++ (new ++ more))
    (fun rest env st1 ⟨more, _, x, _, h, h', _⟩ => ⟨by rw [h']; exact hok _, by rw [h]; rfl⟩)
    (fun d rest env st1 ⟨more, todo, x, h1, h2, h3, h4, h5, h6, h7⟩ => by
      cases todo with
      | nil => simp at h1
      | cons v todo =>
        simp only [List.map_cons, List.cons.injEq] at h1
        obtain ⟨rfl, rfl⟩ := h1
        subst h2 h3
        have hvd : v ∈ ds := h6 v List.mem_cons_self
        refine ⟨[some (.ref a), some (.int s), some (barD bar), some (.ref st.length), some w, some (.ref (st.length + 1 + G.length)), some (.int u), some (.int v)], rfl, ?_⟩
        have a1 : (fTrue (fBin gNe (fName 7) (fName 2))) [some (.ref a), some (.int s), some (barD bar), some (.ref st.length), some w, some (.ref (st.length + 1 + G.length)), some (.int u), some (.int v)] (stC st F (new ++ more) G) = .ok (!barB bar v) (stC st F (new ++ more) G) :=
          ev_true ((ev_bin (ev_name rfl) (ev_name rfl)).trans (gNe_bar v bar))
        have a2 : (fTrue (fBin gNotIn (fName 7) (fName 3))) [some (.ref a), some (.int s), some (barD bar), some (.ref st.length), some w, some (.ref (st.length + 1 + G.length)), some (.int u), some (.int v)] (stC st F (new ++ more) G) = .ok (!decide (v ∈ F ++ (new ++ more))) (stC st F (new ++ more) G) := by
          refine ev_true ((ev_bin (ev_name rfl) (ev_name rfl)).trans ?_)
          unfold gNotIn
          rw [inP_ref v _ (stC_found _ _ _ _)]
        have hc : (fAnd (fTrue (fBin gNe (fName 7) (fName 2))) (fTrue (fBin gNotIn (fName 7) (fName 3)))) [some (.ref a), some (.int s), some (barD bar), some (.ref st.length), some w, some (.ref (st.length + 1 + G.length)), some (.int u), some (.int v)] (stC st F (new ++ more) G) = .ok (!barB bar v && !decide (v ∈ F ++ (new ++ more))) (stC st F (new ++ more) G) := by
          rw [ev_and a1, a2]
          cases barB bar v <;> rfl
        have hlen : (F ++ (new ++ more)).length ≤ n := nodup_len n _ h4 fun z hz => by
          rcases List.mem_append.mp hz with q | q
          · exact hFb z q
          · rcases List.mem_append.mp q with q | q
            · exact hnb z q
            · exact hdb z (h5 z q).1
        unfold L_law_come_1
        by_cases hv : barB bar v = false ∧ v ∉ F ++ (new ++ more)
        · have ht : (!barB bar v && !decide (v ∈ F ++ (new ++ more))) = true := by simp only [hv.1, decide_eq_false hv.2]; rfl
          have hap := app_int v (stC_found st F (new ++ more) G) (by omega)
          have hget : ((stC st F (new ++ more) G).set st.length (.lst ((F ++ (new ++ more) ++ [v]).map .int)))[st.length + 1 + G.length]? = some (.lst ((new ++ more).map .int)) := by
            rw [List.getElem?_set_ne (by omega), stC_fresh]
          have hap2 := app_int v hget (by simp only [List.length_append] at hlen ⊢; omega)
          rw [stC_set] at hap2
          refine ⟨_, _, .inl (by
            rw [ex_if hc, if_pos ht, ex_seq (ex_expr ((ev_meth1 (ev_name rfl) (seqL_ref (stC_found _ _ _ _)) (ev_name rfl)).trans hap)), ex_expr ((ev_meth1 (ev_name rfl) (seqL_ref hget) (ev_name rfl)).trans hap2)]), more ++ [v], todo, some (.int v), rfl, rfl, by rw [List.append_assoc], ?_, fun z hz => ?_, fun z hz => h6 z (List.mem_cons_of_mem _ hz), fun z hz hb => ?_⟩
          · have e : F ++ (new ++ (more ++ [v])) = (F ++ (new ++ more)) ++ [v] := by simp
            rw [e]
            exact List.nodup_append.mpr ⟨h4, by simp, fun p hp q hq => by rw [List.mem_singleton.mp hq]; exact fun z => hv.2 (z ▸ hp)⟩
          · rcases List.mem_append.mp hz with q | q
            · exact h5 z q
            · rw [List.mem_singleton.mp q]; exact ⟨hvd, hv.1⟩
          · rcases h7 z hz hb with q | q
            · rcases List.mem_cons.mp q with q | q
              · subst q; exact .inr (by simp)
              · exact .inl q
            · refine .inr ?_
              have e : F ++ (new ++ (more ++ [v])) = (F ++ (new ++ more)) ++ [v] := by simp
              rw [e]; exact List.mem_append_left _ q
        · have ht : (!barB bar v && !decide (v ∈ F ++ (new ++ more))) = false := by
            cases hb : barB bar v with
            | true => rfl
            | false =>
              have : v ∈ F ++ (new ++ more) := Classical.byContradiction fun z => hv ⟨hb, z⟩
              rw [decide_eq_true this]; rfl
          refine ⟨_, _, .inl (by rw [ex_if hc, ht]; rfl), more, todo, some (.int v), rfl, rfl, rfl, h4, h5, fun z hz => h6 z (List.mem_cons_of_mem _ hz), fun z hz hb => ?_⟩
          rcases h7 z hz hb with q | q
          · rcases List.mem_cons.mp q with q | q
            · subst q; exact .inr (Classical.byContradiction fun z => hv ⟨hb, z⟩)
            · exact .inl q
          · exact .inr q)
    (ds.map .int) _ (stC st F new G) ⟨[], ds, none, rfl, rfl, by simp, by simpa using nd, by simp, fun v h => h, fun v h _ => .inl h⟩
  have ht : todo = [] := by cases todo with
    | nil => rfl
    | cons a b => simp at q1
  subst ht q2 q3
  refine ⟨more, k, q4, q5, fun v hv hb => ?_⟩
  rcases q7 v hv hb with q | q
  · simp at q
  · exact q
end K41

set_option Elab.async false
set_option linter.all false
set_option maxRecDepth 100000
set_option maxHeartbeats 4000000
set_option autoImplicit false
namespace K41
open PySem PySem.Spec PyProof.Rows L2 Fx

theorem sq_ref {st : Store} {m : Nat} {xs : List D} (h : st[m]? = some (.lst xs)) : sqOf (.v (.ref m)) st = .ok ⟨xs, Sq.at m xs⟩ st := by
  unfold sqOf; simp only [h]
abbrev evC (a : Nat) (s : Int) (bar : Option Int) (L : Nat) (w : D) (f x : Option D) : Fx.Env := [some (.ref a), some (.int s), some (barD bar), some (.ref L), some w, f, x, none]
theorem come_wave {n : Nat} {E : E2} {st : Store} {a b wi : Nat} (s : Int) (bar : Option Int) (F : List Int) (G : Store) (W : List Int) (hE : EOk n E) (hO : OutAt st a b n E) (hWi : ∀ new, (stC st F new G)[wi]? = some (.lst (W.map .int))) (hWb : ∀ v ∈ W, 0 ≤ v ∧ v < n) (hFb : ∀ v ∈ F, 0 ≤ v ∧ v < n) (nd : F.Nodup) :
    ∃ new, forL (Sq.at wi (W.map .int)) (tgN 6) L_law_come_2 (evC a s bar st.length (.ref wi) (some (.ref (st.length + 1 + G.length))) none) (W.map .int) (evC a s bar st.length (.ref wi) (some (.ref (st.length + 1 + G.length))) none) (stC st F [] G)
        = .next (evC a s bar st.length (.ref wi) (some (.ref (st.length + 1 + G.length))) none) (stC st F new G) ∧ (F ++ new).Nodup ∧ (∀ v ∈ new, ∃ u ∈ W, rB E bar u v) ∧ ∀ u ∈ W, ∀ v, rB E bar u v → v ∈ F ++ new := by
  have hsm := hE.small
  obtain ⟨e', s', k, new, done, todo, x, q1, q2, q3, q4, q5, q6, q7⟩ := forL_inv (ok := Sq.at wi (W.map .int)) (tg := tgN 6) (body := L_law_come_2) (e0 := evC a s bar st.length (.ref wi) (some (.ref (st.length + 1 + G.length))) none)
    (fun rest env st1 => ∃ new done todo x, W = done ++ todo ∧ rest = todo.map .int ∧ env = evC a s bar st.length (.ref wi) (some (.ref (st.length + 1 + G.length))) x ∧ st1 = stC st F new G ∧ (F ++ new).Nodup ∧ (∀ v ∈ new, ∃ u ∈ W, rB E bar u v) ∧ ∀ u ∈ done, ∀ v, rB E bar u v → v ∈ F ++ new)
    (fun rest env st1 ⟨new, _, _, x, _, _, h, h', _⟩ => ⟨by rw [h']; exact hWi new, by rw [h]; rfl⟩)
    (fun d rest env st1 ⟨new, done, todo, x, h1, h2, h3, h4, h5, h6, h7⟩ => by
      cases todo with
      | nil => simp at h2
      | cons u todo =>
        simp only [List.map_cons, List.cons.injEq] at h2
        obtain ⟨rfl, rfl⟩ := h2
        subst h3 h4
        have huW : u ∈ W := by rw [h1]; simp
        obtain ⟨b1, b2⟩ := hWb u huW
        obtain ⟨i, hi⟩ : ∃ i : Nat, u = (i : Int) := ⟨u.toNat, by omega⟩
        have hin : i < n := by omega
        have hrow := hO.row i hin
        rw [← hi] at hrow
        have hbi : b + i < st.length := (List.getElem?_eq_some_iff.mp hrow).1
        have hnb : ∀ v ∈ new, 0 ≤ v ∧ v < n := fun v hv => by
          obtain ⟨u, _, h⟩ := h6 v hv
          exact (hE.bnd _ h.1).2
        have hds : ∀ v ∈ outs E u, 0 ≤ v ∧ v < n := fun v hv => (hE.bnd _ ((mem_outs E u v).mp hv)).2
        obtain ⟨more, r1, r2, r3, r4⟩ := come_in n st a s bar F G (.ref wi) hsm hFb (Sq.at (b + i) ((outs E u).map .int)) (fun new => by
          show (stC st F new G)[b + i]? = _
          rw [stC_old _ _ _ _ hbi]; exact hrow) u (outs E u) new h5 hnb hds
        have hit : (fIt (fBin gIx (fName 0) (fName 6))) (evC a s bar st.length (.ref wi) (some (.ref (st.length + 1 + G.length))) (some (.int u))) (stC st F new G) = .ok ⟨(outs E u).map .int, Sq.at (b + i) ((outs E u).map .int)⟩ (stC st F new G) := by
          have e1 : (fBin gIx (fName 0) (fName 6)) (evC a s bar st.length (.ref wi) (some (.ref (st.length + 1 + G.length))) (some (.int u))) (stC st F new G) = .ok (.v (.ref (b + i))) (stC st F new G) := by
            have := ix_lst (st := stC st F new G) (n := a) (xs := refsD b n) (i := i) (by rw [stC_old _ _ _ _ hO.la]; exact hO.lst) (refsD_get hin)
            rw [← hi] at this
            exact (ev_bin (ev_name rfl) (ev_name rfl)).trans this
          rw [ev_it e1]
          exact sq_ref (by rw [stC_old _ _ _ _ hbi]; exact hrow)
        refine ⟨evC a s bar st.length (.ref wi) (some (.ref (st.length + 1 + G.length))) (some (.int u)), rfl, evC a s bar st.length (.ref wi) (some (.ref (st.length + 1 + G.length))) (some (.int u)), stC st F (new ++ more) G, .inl ?_, new ++ more, done ++ [u], todo, some (.int u), by rw [h1]; simp, rfl, rfl, rfl, r2, fun v hv => ?_, fun z hz v hzv => ?_⟩
        · unfold L_law_come_2
          rw [ex_for hit]; exact r1
        · rcases List.mem_append.mp hv with q | q
          · exact h6 v q
          · obtain ⟨p1, p2⟩ := r3 v q
            exact ⟨u, huW, (mem_outs E u v).mp p1, p2⟩
        · rcases List.mem_append.mp hz with q | q
          · have := h7 z q v hzv
            rw [← List.append_assoc]; exact List.mem_append_left _ this
          · rw [List.mem_singleton.mp q] at hzv
            exact r4 v ((mem_outs E u v).mpr hzv.1) hzv.2)
    (W.map .int) _ (stC st F [] G) ⟨[], [], W, none, rfl, rfl, rfl, rfl, by simpa using nd, by simp, by simp⟩
  have ht : todo = [] := by cases todo with
    | nil => rfl
    | cons a b => simp at q2
  subst ht q3 q4
  have : done = W := by rw [q1]; simp
  subst this
  exact ⟨new, k, q5, q6, q7⟩
theorem Srch.wave {R : Int → Int → Prop} {n : Nat} {s : Int} {F W new : List Int} (I : Srch R n s F W) (hb : ∀ u v, R u v → 0 ≤ v ∧ v < n) (nd : (F ++ new).Nodup) (h1 : ∀ v ∈ new, ∃ u ∈ W, R u v) (h2 : ∀ u ∈ W, ∀ v, R u v → v ∈ F ++ new) : Srch R n s (F ++ new) new where
  nd := nd
  sound := fun v hv => by
    rcases List.mem_append.mp hv with h | h
    · exact I.sound v h
    · obtain ⟨u, hu, t⟩ := h1 v h
      rcases I.wait u hu with e | e
      · subst e; exact .one t
      · exact .more (I.sound u e) t
  wait := fun v hv => .inr (List.mem_append_right _ hv)
  closed := fun x hx hn v t => by
    by_cases hw : x ∈ W
    · exact h2 x hw v t
    · refine List.mem_append_left _ (I.closed x ?_ hw v t)
      rcases hx with q | q
      · exact .inl q
      · rcases List.mem_append.mp q with q | q
        · exact .inr q
        · exact absurd q hn
  bnd := fun v hv => by
    rcases List.mem_append.mp hv with h | h
    · exact I.bnd v h
    · obtain ⟨u, _, t⟩ := h1 v h
      exact hb u v t
  len := by simp only [List.length_append]; omega
/-- found and the waves so far -/
abbrev stW (st : Store) (F : List Int) (G : Store) : Store := st ++ (.lst (F.map .int) :: G)
theorem stW_found (st : Store) (F : List Int) (G : Store) : (stW st F G)[st.length]? = some (.lst (F.map .int)) := by
  rw [List.getElem?_append_right (by omega)]; simp
theorem stW_G (st : Store) (F : List Int) (G : Store) (j : Nat) : (stW st F G)[st.length + 1 + j]? = G[j]? := by
  rw [List.getElem?_append_right (by omega), show st.length + 1 + j - st.length = j + 1 by omega, List.getElem?_cons_succ]
def muC (n L : Nat) (env : Fx.Env) (s : Store) : Nat := match env[4]?, s[L]? with
  | some (some (D.ref w)), some (O.lst xs) => match s[w]? with
    | some (O.lst ws) => 2 * (n - xs.length) + (if ws.isEmpty then 0 else 1)
    | _ => 0
  | _, _ => 0
theorem muC_eq (n : Nat) (st : Store) (a : Nat) (s : Int) (bar : Option Int) (F W : List Int) (G : Store) (j : Nat) (f x : Option D) (h : G[j]? = some (.lst (W.map .int))) :
    muC n st.length (evC a s bar st.length (.ref (st.length + 1 + j)) f x) (stW st F G) = 2 * (n - F.length) + (if W.isEmpty then 0 else 1) := by
  unfold muC
  simp only [evC, List.getElem?_cons_succ, List.getElem?_cons_zero, stW_found, stW_G, h, List.length_map]
  cases W <;> rfl
theorem F_come_eq {n : Nat} {E : E2} {st : Store} {a b : Nat} (s : Int) (bar : Option Int) (hE : EOk n E) (hO : OutAt st a b n E) (hs : 0 ≤ s ∧ s < n) :
    ∃ L : List Int, F_law_come [.ref a, .int s, barD bar] st = .ok (.o (.lst (L.map .int))) st ∧ ∀ v, v ∈ L ↔ Rch (rB E bar) s v := by
  have hsm := hE.small
  have hb : ∀ u v, rB E bar u v → 0 ≤ v ∧ v < n := fun u v h => (hE.bnd _ h.1).2
  have e : F_law_come [.ref a, .int s, barD bar] st = gc st (retOf (B_law_come [some (.ref a), some (.int s), some (barD bar), none, none, none, none, none] st)) := rfl
  have step : ∀ env st1, (∃ F W G j, env = evC a s bar st.length (.ref (st.length + 1 + j)) none none ∧ st1 = stW st F G ∧ G[j]? = some (.lst (W.map .int)) ∧ Srch (rB E bar) n s F W) →
      (∃ st2, (fTrue (fBin gNe (fName 4) (fLst fNil))) env st1 = .ok false st2 ∧ ∃ F G x, env = evC a s bar st.length x none none ∧ st2 = stW st F G ∧ Srch (rB E bar) n s F []) ∨
      ∃ st2 e' s', (fTrue (fBin gNe (fName 4) (fLst fNil))) env st1 = .ok true st2 ∧ W_law_come_1 env st2 = .next e' s' ∧ (evC a s bar st.length (.ref (st.length + 1)) none none).length = e'.length ∧
        (∃ F W G j, scope (evC a s bar st.length (.ref (st.length + 1)) none none) e' = evC a s bar st.length (.ref (st.length + 1 + j)) none none ∧ s' = stW st F G ∧ G[j]? = some (.lst (W.map .int)) ∧ Srch (rB E bar) n s F W) ∧
        muC n st.length (scope (evC a s bar st.length (.ref (st.length + 1)) none none) e') s' < muC n st.length env st1 := by
    rintro env st1 ⟨F, W, G, j, rfl, rfl, hj, I⟩
    have hc : (fTrue (fBin gNe (fName 4) (fLst fNil))) (evC a s bar st.length (.ref (st.length + 1 + j)) none none) (stW st F G) = .ok (!W.isEmpty) (stW st F G) :=
      ev_true ((ev_bin (ev_name rfl) (ev_lst ev_nil (by simp))).trans (gNe_empty W (by rw [stW_G]; exact hj)))
    cases W with
    | nil => exact .inl ⟨_, hc, F, G, _, rfl, rfl, I⟩
    | cons w0 W0 =>
      have hjl : j < G.length := (List.getElem?_eq_some_iff.mp hj).1
      have hWb : ∀ v ∈ w0 :: W0, 0 ≤ v ∧ v < n := fun v hv => by
        rcases I.wait v hv with q | q
        · rw [q]; exact hs
        · exact I.bnd v q
      have e0 : stW st F G ++ [.lst []] = stC st F [] G := by simp [stW, stC]
      have hl : (stW st F G).length = st.length + 1 + G.length := by simp [stW]; omega
      obtain ⟨new, r1, r2, r3, r4⟩ := come_wave (a := a) (b := b) (wi := st.length + 1 + j) s bar F G (w0 :: W0) hE hO (fun new => by rw [stC_G _ _ _ _ hjl]; exact hj) hWb I.bnd I.nd
      have I2 := I.wave hb r2 r3 r4
      have e1 : stC st F new G = stW st (F ++ new) (G ++ [.lst (new.map .int)]) := rfl
      have hbody : W_law_come_1 (evC a s bar st.length (.ref (st.length + 1 + j)) none none) (stW st F G) = .next (evC a s bar st.length (.ref (st.length + 1 + G.length)) (some (.ref (st.length + 1 + G.length))) none) (stW st (F ++ new) (G ++ [.lst (new.map .int)])) := by
        unfold W_law_come_1
        have p1 : fSet 5 (fLst fNil) (evC a s bar st.length (.ref (st.length + 1 + j)) none none) (stW st F G) = .next (evC a s bar st.length (.ref (st.length + 1 + j)) (some (.ref (st.length + 1 + G.length))) none) (stC st F [] G) := by
          rw [ex_setO (ev_lst ev_nil (by simp)), e0, hl]; rfl
        have hit : (fIt (fName 4)) (evC a s bar st.length (.ref (st.length + 1 + j)) (some (.ref (st.length + 1 + G.length))) none) (stC st F [] G) = .ok ⟨(w0 :: W0).map .int, Sq.at (st.length + 1 + j) ((w0 :: W0).map .int)⟩ (stC st F [] G) :=
          (ev_it (ev_name rfl)).trans (sq_ref (by rw [stC_G _ _ _ _ hjl]; exact hj))
        rw [ex_seq p1, ex_seq ((ex_for hit).trans r1), ex_set (ev_name rfl), e1]
        rfl
      refine .inr ⟨_, _, _, hc, hbody, rfl, ⟨F ++ new, new, G ++ [.lst (new.map .int)], G.length, rfl, rfl, by simp, I2⟩, ?_⟩
      have g1 : (G ++ [O.lst (new.map .int)])[G.length]? = some (.lst (new.map .int)) := by simp
      have es : scope (evC a s bar st.length (.ref (st.length + 1)) none none) (evC a s bar st.length (.ref (st.length + 1 + G.length)) (some (.ref (st.length + 1 + G.length))) none) = evC a s bar st.length (.ref (st.length + 1 + G.length)) none none := rfl
      rw [es, muC_eq n st a s bar _ new _ G.length none none g1, muC_eq n st a s bar F (w0 :: W0) G j none none hj]
      have hF2 := nodup_len n _ I2.nd I2.bnd
      simp only [List.length_append] at hF2 ⊢
      cases new with
      | nil => simp
      | cons x y => simp at hF2 ⊢; omega
  obtain ⟨e', s', h1, F, G, x, rfl, rfl, I⟩ := fWhile_inv (c := fTrue (fBin gNe (fName 4) (fLst fNil))) (body := W_law_come_1) (e0 := evC a s bar st.length (.ref (st.length + 1)) none none) (st := stW st [] [.lst ([s].map .int)])
    (fun env st1 => ∃ F W G j, env = evC a s bar st.length (.ref (st.length + 1 + j)) none none ∧ st1 = stW st F G ∧ G[j]? = some (.lst (W.map .int)) ∧ Srch (rB E bar) n s F W)
    (fun env st2 => ∃ F G x, env = evC a s bar st.length x none none ∧ st2 = stW st F G ∧ Srch (rB E bar) n s F []) (fun env st1 => muC n st.length env st1)
    ⟨[], [s], [.lst ([s].map .int)], 0, rfl, rfl, rfl, Srch.start _ _ _⟩ step
  refine ⟨F, ?_, I.done⟩
  rw [e]
  unfold B_law_come
  have p1 : fPar 3 4 (fCons (fLst fNil) (fCons (fLst (fCons (fName 1) fNil)) fNil)) [some (.ref a), some (.int s), some (barD bar), none, none, none, none, none] st = .next (evC a s bar st.length (.ref (st.length + 1)) none none) (stW st [] [.lst ([s].map .int)]) := by
    rw [ex_par (ev_consO (ev_lst ev_nil (by simp)) (ev_consO (ev_lst (ev_consV (ev_name rfl) ev_nil) (by simp)) ev_nil))]
    simp [evC, stW]
  rw [ex_seq p1, ex_seq h1, ex_ret (ev_name rfl)]
  exact gc_ref (stW_found st F G) (Nat.le_refl _) (show OBl _ (.lst (F.map .int)) from bls_ints F)
end K41

set_option Elab.async false
set_option linter.all false
set_option maxRecDepth 100000
set_option maxHeartbeats 4000000
set_option autoImplicit false
namespace K41
open PySem PySem.Spec PyProof.Rows L2 Fx

theorem rch_none (E : E2) (s v : Int) : Rch (rB E none) s v ↔ Rch (rE E) s v :=
  ⟨Rch.imp fun a b h => h.1, Rch.imp fun a b h => ⟨h, rfl⟩⟩
theorem mem_bare (E : E2) (o a b : Int) : (a, b) ∈ bareE E o ↔ (a, b) ∈ E ∧ a ≠ o ∧ b ≠ o := by
  unfold bareE
  rw [List.mem_filter]
  simp
theorem rch_bar (E : E2) (o s : Int) (hs : s ≠ o) (v : Int) : Rch (rB E (some o)) s v ↔ Rch (rE (bareE E o)) s v := by
  constructor
  · intro h
    have key : Rch (rE (bareE E o)) s v ∧ v ≠ o := by
      induction h with
      | one t => exact ⟨.one ((mem_bare E o _ _).mpr ⟨t.1, hs, by simpa [barB] using t.2⟩), by simpa [barB] using t.2⟩
      | more _ t ih => exact ⟨.more ih.1 ((mem_bare E o _ _).mpr ⟨t.1, ih.2, by simpa [barB] using t.2⟩), by simpa [barB] using t.2⟩
    exact key.1
  · exact Rch.imp fun a b h => by
      obtain ⟨h1, h2, h3⟩ := (mem_bare E o a b).mp h
      exact ⟨h1, by simpa [barB] using h3⟩
theorem outAt_of (st : Store) (n : Nat) (E : E2) : OutAt (stO st n E) (st.length + n) st.length n E :=
  ⟨stO_last st n E, fun i hi => stO_row st E hi, (List.getElem?_eq_some_iff.mp (stO_last st n E)).1⟩
open Classical in
theorem F_lgates_eq {n : Nat} (tr : List Int) (E : E2) (s : Int) (st : Store) (hE : EOk n E) (hn : tr.length = n) (hs : 0 ≤ s ∧ s < n) : F_law_gates [netD tr E, .int s] st = .ok (.v (gatesD n E s)) st := by
  have hsm := hE.small
  have e : F_law_gates [netD tr E, .int s] st = gc st (retOf (B_law_gates [some (netD tr E), some (.int s), none, none] st)) := rfl
  rw [e]
  unfold B_law_gates
  have p1 : fSet 2 (fCall F_law_out (fCons (fName 0) fNil)) [some (netD tr E), some (.int s), none, none] st = .next [some (netD tr E), some (.int s), some (.ref (st.length + n)), none] (stO st n E) := by
    have h1 : (fCall F_law_out (fCons (fName 0) fNil)) [some (netD tr E), some (.int s), none, none] st = .ok (.v (.ref (st.length + n))) (stO st n E) := by
      rw [ev_call (ev_consV (ev_name rfl) ev_nil) (F_out_eq tr E st hE hn (by omega))]
      exact stO_keep (by omega)
    rw [ex_set h1]; rfl
  have hO := outAt_of st n E
  have come : ∀ (bar : Option Int) (env : Fx.Env) (fb : FE), env[2]? = some (some (.ref (st.length + n))) → env[1]? = some (some (.int s)) → fb env (stO st n E) = .ok (.v (barD bar)) (stO st n E) →
      (fTrue (fBin gNotIn (fName 1) (fCall F_law_come (fCons (fName 2) (fCons (fName 1) (fCons fb fNil)))))) env (stO st n E) = .ok (!decide (Rch (rB E bar) s s)) (stO st n E) := by
    intro bar env fb h2 h1 hb
    obtain ⟨L, r1, r2⟩ := F_come_eq s bar hE hO hs
    refine ev_true ((ev_bin (ev_name h1) (ev_callS (ev_consV (ev_name h2) (ev_consV (ev_name h1) (ev_consV hb ev_nil))) r1)).trans ?_)
    unfold gNotIn
    rw [inP_lst]
    have : decide (s ∈ L) = decide (Rch (rB E bar) s s) := by rw [decide_eq_decide]; exact r2 s
    rw [this]
  have c1 := come none [some (netD tr E), some (.int s), some (.ref (st.length + n)), none] (fC .non) rfl rfl rfl
  have ec : decide (Rch (rB E none) s s) = decide (Rch (rE E) s s) := by rw [decide_eq_decide]; exact rch_none E s s
  rw [ec] at c1
  rw [ex_seq p1]
  unfold gatesD
  by_cases hr : Rch (rE E) s s
  · rw [if_pos hr, ex_seq (e1 := [some (netD tr E), some (.int s), some (.ref (st.length + n)), none]) (st1 := stO st n E) (by rw [ex_if c1]; simp [hr, fSkip])]
    have hrng : (fRng1 (fCall1 gLen (fName 2))) [some (netD tr E), some (.int s), some (.ref (st.length + n)), none] (stO st n E) = .ok ⟨(rngI n).map .int, Sq.any⟩ (stO st n E) := by
      have hl : (fCall1 gLen (fName 2)) [some (netD tr E), some (.int s), some (.ref (st.length + n)), none] (stO st n E) = .ok (.v (.int (n : Int))) (stO st n E) := by
        rw [ev_call1 (ev_name rfl)]
        simp only [gLen, seqL_ref (stO_last st n E), refsD, List.length_map, List.length_range]
      rw [ev_rng1 hl (by omega), rngD_eq]
    have hc := compL_pure (ok := Sq.any) (st := stO st n E) trivial (tg := tgN 3) (tt := fAnd (fTrue (fBin gNe (fName 3) (fName 1))) (fTrue (fBin gNotIn (fName 1) (fCall F_law_come (fCons (fName 2) (fCons (fName 1) (fCons (fName 3) fNil))))))) (elt := fName 3) (e0 := wipeE [some (netD tr E), some (.int s), some (.ref (st.length + n)), none] [3])
      (fun d => match d with | .int o => gp E s o | _ => false) id ((rngI n).map .int) [] (fun d hd => by
        obtain ⟨o, _, rfl⟩ := List.mem_map.mp hd
        refine ⟨[some (netD tr E), some (.int s), some (.ref (st.length + n)), some (.int o)], rfl, ?_, fun _ => rfl⟩
        have a1 : (fTrue (fBin gNe (fName 3) (fName 1))) [some (netD tr E), some (.int s), some (.ref (st.length + n)), some (.int o)] (stO st n E) = .ok (!decide (o = s)) (stO st n E) := ev_true ((ev_bin (ev_name rfl) (ev_name rfl)).trans (gNe_int o s))
        have a2 := come (some o) [some (netD tr E), some (.int s), some (.ref (st.length + n)), some (.int o)] (fName 3) rfl rfl (ev_name rfl)
        rw [ev_and a1, a2]
        show _ = Out.ok (gp E s o) _
        unfold gp
        by_cases q : o = s
        · simp [q]
        · have : decide (Rch (rB E (some o)) s s) = decide (Rch (rE (bareE E o)) s s) := by rw [decide_eq_decide]; exact rch_bar E o s (fun z => q z.symm) s
          rw [this]
          simp [q]) (by simp [rngI]; omega)
    have h2 : (fComp (fRng1 (fCall1 gLen (fName 2))) (tgN 3) (fAnd (fTrue (fBin gNe (fName 3) (fName 1))) (fTrue (fBin gNotIn (fName 1) (fCall F_law_come (fCons (fName 2) (fCons (fName 1) (fCons (fName 3) fNil))))))) (fName 3) [3]) [some (netD tr E), some (.int s), some (.ref (st.length + n)), none] (stO st n E)
        = .ok (.o (.lst ((gatesL n E s).map .int))) (stO st n E) := by
      rw [ev_comp hrng]
      simp only
      rw [hc]
      congr 2
      unfold gatesL
      simp only [List.nil_append, List.filter_map, List.map_id]
      rfl
    rw [ex_ret (ev_tuple h2)]
    exact gc_new (bl_tints _)
  · rw [if_neg hr, ex_seqR (r := .v .non) (st1 := stO st n E) (by rw [ex_if c1]; simp [hr, fRet, fC, Out.thenS])]
    exact gc_new .non
end K41

set_option Elab.async false
set_option linter.all false
set_option maxRecDepth 100000
set_option maxHeartbeats 4000000
set_option autoImplicit false
namespace K41
open PySem PySem.Spec PyProof.Rows L2 Fx

/-! Rounds of a relation, in plain Lean: what comes back to a station lies on a round without a station twice. -/
/-- a walk from a by the stations of l to z -/
def Lk (R : Int → Int → Prop) : Int → List Int → Int → Prop
  | a, [], z => R a z
  | a, b :: l, z => R a b ∧ Lk R b l z
variable {R : Int → Int → Prop}
theorem lk_app : ∀ (l1 : List Int) (a b z : Int) (l2 : List Int), Lk R a (l1 ++ b :: l2) z ↔ Lk R a l1 b ∧ Lk R b l2 z
  | [], a, b, z, l2 => Iff.rfl
  | c :: l1, a, b, z, l2 => by
    show (R a c ∧ Lk R c (l1 ++ b :: l2) z) ↔ (R a c ∧ Lk R c l1 b) ∧ Lk R b l2 z
    rw [lk_app l1 c b z l2, and_assoc]
theorem lk_rch : ∀ (l : List Int) (a z s : Int), Lk R a l z → (s = a ∨ Rch R s a) → Rch R s z
  | [], a, z, s, h, q => by
    rcases q with e | e
    · subst e; exact .one h
    · exact .more e h
  | b :: l, a, z, s, h, q => by
    refine lk_rch l b z s h.2 (.inr ?_)
    rcases q with e | e
    · subst e; exact .one h.1
    · exact .more e h.1
theorem split_mem {x : Int} {l : List Int} (h : x ∈ l) : ∃ a b, l = a ++ x :: b := List.append_of_mem h
theorem rch_lk {s v : Int} (h : Rch R s v) : ∃ l, Lk R s l v ∧ (s :: l).Nodup ∧ v ∉ l := by
  induction h with
  | one h => exact ⟨[], h, by simp, by simp⟩
  | @more u v h t ih =>
    obtain ⟨l, h1, h2, h3⟩ := ih
    by_cases hu : u = s
    · subst hu; exact ⟨[], t, by simp, by simp⟩
    · by_cases hv : v ∈ l ++ [u]
      · obtain ⟨a, b, e⟩ := split_mem hv
        have hl : Lk R s (l ++ u :: []) v := (lk_app l s u v []).mpr ⟨h1, t⟩
        have e' : l ++ u :: [] = a ++ v :: b := e
        rw [e'] at hl
        have hn : (s :: (l ++ [u])).Nodup := by
          rw [List.nodup_cons] at h2 ⊢
          refine ⟨by simp [h2.1, Ne.symm hu], ?_⟩
          rw [List.nodup_append]
          exact ⟨h2.2, by simp, fun x hx y hy => by
            rw [List.mem_singleton] at hy; subst hy
            intro e; subst e; exact h3 hx⟩
        rw [e] at hn
        rw [List.nodup_cons, List.nodup_append] at hn
        refine ⟨a, ((lk_app a s v v b).mp hl).1, ?_, fun hva => hn.2.2.2 v hva v (by simp) rfl⟩
        rw [List.nodup_cons]
        exact ⟨fun hs => hn.1 (List.mem_append_left _ hs), hn.2.1⟩
      · refine ⟨l ++ [u], (lk_app l s u v []).mpr ⟨h1, t⟩, ?_, hv⟩
        rw [List.nodup_cons] at h2 ⊢
        refine ⟨by simp [h2.1, Ne.symm hu], ?_⟩
        rw [List.nodup_append]
        exact ⟨h2.2, by simp, fun x hx y hy => by
          rw [List.mem_singleton] at hy; subst hy
          intro e; subst e; exact h3 hx⟩
/-- a row of stations from f, all others greater, as the law makes them; and its last one -/
inductive Pth (R : Int → Int → Prop) (f : Int) : List Int → Int → Prop
  | start : Pth R f [f] f
  | step {row : List Int} {u v : Int} (h : Pth R f row u) (t : R u v) (g : f < v) (n : v ∉ row) : Pth R f (row ++ [v]) v
def Round (R : Int → Int → Prop) (f : Int) (row : List Int) : Prop := ∃ u, Pth R f row u ∧ R u f ∧ 1 < row.length
theorem pth_lk {f : Int} {row : List Int} {u : Int} (h : Pth R f row u) : ∃ l, row = f :: l ∧ (∀ z, R u z → Lk R f l z) ∧ (f :: l).Nodup ∧ ∀ x ∈ l, f < x := by
  induction h with
  | start => exact ⟨[], rfl, fun z h => h, by simp, by simp⟩
  | @step row u v h t g n ih =>
    obtain ⟨l, e, h1, h2, h3⟩ := ih
    subst e
    refine ⟨l ++ [v], rfl, fun z hz => (lk_app l f v z []).mpr ⟨h1 v t, hz⟩, ?_, fun x hx => ?_⟩
    · show ((f :: l) ++ [v]).Nodup
      rw [List.nodup_append]
      exact ⟨h2, by simp, fun x hx y hy => by
        rw [List.mem_singleton] at hy; subst hy
        intro e; subst e; exact n hx⟩
    · rcases List.mem_append.mp hx with q | q
      · exact h3 x q
      · rw [List.mem_singleton.mp q]; exact g
theorem lk_pth {f : Int} : ∀ (k : Nat) (l : List Int), l.length = k → ∀ z, Lk R f l z → (f :: l).Nodup → (∀ x ∈ l, f < x) → ∃ u, Pth R f (f :: l) u ∧ R u z
  | 0, l, hk, z, h, _, _ => by
    have : l = [] := List.eq_nil_of_length_eq_zero hk
    subst this
    exact ⟨f, .start, h⟩
  | k + 1, l, hk, z, h, hn, hg => by
    rcases List.eq_nil_or_concat l with e | ⟨l', x, e⟩
    · subst e; simp at hk
    · have e' : l = l' ++ [x] := by rw [e]; simp
      clear e
      subst e'
      have hl : l'.length = k := by simpa using hk
      obtain ⟨a1, a2⟩ := (lk_app l' f x z []).mp h
      have hn' : ((f :: l') ++ [x]).Nodup := hn
      rw [List.nodup_append] at hn'
      obtain ⟨u, u1, u2⟩ := lk_pth k l' hl x a1 hn'.1 fun y hy => hg y (List.mem_append_left _ hy)
      exact ⟨x, .step u1 u2 (hg x (by simp)) (fun hx => hn'.2.2 x hx x (by simp) rfl), a2⟩
theorem least_mem : ∀ (l : List Int), l ≠ [] → ∃ m ∈ l, ∀ x ∈ l, m ≤ x
  | [], h => absurd rfl h
  | [a], _ => ⟨a, by simp, by simp⟩
  | a :: b :: l, _ => by
    obtain ⟨m, h1, h2⟩ := least_mem (b :: l) (by simp)
    by_cases h : a ≤ m
    · refine ⟨a, by simp, fun x hx => ?_⟩
      rcases List.mem_cons.mp hx with e | e
      · omega
      · have := h2 x e; omega
    · refine ⟨m, List.mem_cons_of_mem _ h1, fun x hx => ?_⟩
      rcases List.mem_cons.mp hx with e | e
      · omega
      · exact h2 x e
/-- what comes back to s lies on a round -/
theorem rch_round (nl : ∀ a, ¬ R a a) (s : Int) : Rch R s s ↔ ∃ f row, Round R f row ∧ s ∈ row := by
  constructor
  · intro h
    obtain ⟨l, h1, h2, _⟩ := rch_lk h
    obtain ⟨m, m1, m2⟩ := least_mem (s :: l) (by simp)
    have key : ∃ l', Lk R m l' m ∧ (m :: l').Nodup ∧ (∀ x, x ∈ m :: l' ↔ x ∈ s :: l) := by
      rcases List.mem_cons.mp m1 with e | e
      · subst e; exact ⟨l, h1, h2, fun _ => Iff.rfl⟩
      · obtain ⟨a, b, rfl⟩ := split_mem e
        obtain ⟨p1, p2⟩ := (lk_app a s m s b).mp h1
        refine ⟨b ++ s :: a, (lk_app b m s m a).mpr ⟨p2, p1⟩, ?_, fun x => ?_⟩
        · have hp : (m :: (b ++ s :: a)).Perm (s :: (a ++ m :: b)) := by
            have q1 : ((m :: b) ++ (s :: a)).Perm ((s :: a) ++ (m :: b)) := List.perm_append_comm
            exact q1
          exact hp.nodup_iff.mpr h2
        · simp only [List.mem_cons, List.mem_append]
          constructor <;> rintro (h | h | h | h) <;> simp [h]
    obtain ⟨l', k1, k2, k3⟩ := key
    have hg : ∀ x ∈ l', m < x := fun x hx => by
      have h3 := m2 x ((k3 x).mp (List.mem_cons_of_mem _ hx))
      have : m ≠ x := fun e => by
        subst e
        exact (List.nodup_cons.mp k2).1 hx
      omega
    obtain ⟨u, u1, u2⟩ := lk_pth _ l' rfl m k1 k2 hg
    refine ⟨m, m :: l', ⟨u, u1, u2, ?_⟩, (k3 s).mpr (by simp)⟩
    cases l' with
    | nil => exact absurd k1 (nl m)
    | cons a l' => simp
  · rintro ⟨f, row, ⟨u, u1, u2, u3⟩, hs⟩
    obtain ⟨l, rfl, l1, l2, l3⟩ := pth_lk u1
    have hc := l1 f u2
    rcases List.mem_cons.mp hs with e | e
    · subst e; exact lk_rch l _ _ _ hc (.inl rfl)
    · obtain ⟨a, b, rfl⟩ := split_mem e
      obtain ⟨p1, p2⟩ := (lk_app a f s f b).mp hc
      exact lk_rch _ s s s ((lk_app b s f s a).mpr ⟨p2, p1⟩) (.inl rfl)
/-- the same round, of a relation that leaves one out -/
theorem pth_without {f o : Int} {row : List Int} {u : Int} : Pth (fun a b => R a b ∧ a ≠ o ∧ b ≠ o) f row u → Pth R f row u ∧ (f ≠ o → o ∉ row) := by
  intro h
  induction h with
  | start => exact ⟨.start, fun h => by simp [Ne.symm h]⟩
  | @step row u v h t g n ih => exact ⟨.step ih.1 t.1 g n, fun hf => by simp [ih.2 hf, Ne.symm t.2.2]⟩
theorem pth_last {f : Int} {row : List Int} {u : Int} (h : Pth R f row u) : u ∈ row := by
  cases h <;> simp
theorem pth_with {f o : Int} {row : List Int} {u : Int} (h : Pth R f row u) : o ∉ row → Pth (fun a b => R a b ∧ a ≠ o ∧ b ≠ o) f row u := by
  induction h with
  | start => intro _; exact .start
  | @step row u v h t g n ih =>
    intro ho
    rw [List.mem_append] at ho
    have h1 : o ∉ row := fun q => ho (.inl q)
    refine .step (ih h1) ⟨t, fun e => ?_, fun e => ho (.inr (by simp [e]))⟩ g n
    subst e; exact h1 (pth_last h)
theorem round_without (f o : Int) (row : List Int) : Round (fun a b => R a b ∧ a ≠ o ∧ b ≠ o) f row ↔ Round R f row ∧ o ∉ row := by
  constructor
  · rintro ⟨u, u1, u2, u3⟩
    obtain ⟨p1, p2⟩ := pth_without u1
    exact ⟨⟨u, p1, u2.1, u3⟩, p2 u2.2.2⟩
  · rintro ⟨⟨u, u1, u2, u3⟩, ho⟩
    refine ⟨u, pth_with u1 ho, ⟨u2, fun e => ?_, fun e => ?_⟩, u3⟩
    · subst e; exact ho (pth_last u1)
    · obtain ⟨l, rfl, _⟩ := pth_lk u1
      exact ho (by simp [e])
/-- what begins a row: the next one of it -/
theorem pth_next {f : Int} {row : List Int} {w : Int} (h : Pth R f row w) : ∀ {p : List Int} {u : Int}, Pth R f p u → p <+: row → p = row ∨ ∃ v, p ++ [v] <+: row ∧ R u v ∧ f < v ∧ v ∉ p := by
  have last_eq : ∀ {p : List Int} {a b : Int}, Pth R f p a → Pth R f p b → a = b := by
    intro p a b ha hb
    have g : ∀ {q : List Int} {c : Int}, Pth R f q c → q.getLast? = some c := by
      intro q c hc; cases hc <;> simp
    have h1 := g ha
    have h2 := g hb
    rw [h1] at h2; exact Option.some.inj h2
  induction h with
  | start =>
    intro p u hp hpre
    left
    obtain ⟨l, rfl, _⟩ := pth_lk hp
    obtain ⟨t, ht⟩ := hpre
    have := congrArg List.length ht
    simp at this
    have e : l = [] := this.1
    subst e; rfl
  | @step row w v h t g n ih =>
    intro p u hp hpre
    rcases List.prefix_concat_iff.mp hpre with e | e
    · left; exact e
    · right
      rcases ih hp e with q | ⟨x, q1, q2⟩
      · subst q
        have := last_eq hp h
        subst this
        exact ⟨v, List.prefix_refl _, t, g, n⟩
      · exact ⟨x, q1.trans (List.prefix_append _ _), q2⟩
end K41

set_option Elab.async false
set_option linter.all false
set_option maxRecDepth 100000
set_option maxHeartbeats 4000000
set_option autoImplicit false
namespace K41
open PySem PySem.Spec PyProof.Rows L2 Fx

/-- a text of at most k signs, all of them signs -/
structure Gd (k : Nat) (t : Str) : Prop where
  len : t.length ≤ k
  ok : PyData.strOk t = true
theorem gd_mono {j k : Nat} {t : Str} (g : Gd j t) (h : j ≤ k) : Gd k t := ⟨Nat.le_trans g.len h, g.ok⟩
theorem gd_app {a b : Nat} {x y : Str} (g : Gd a x) (h : Gd b y) : Gd (a + b) (x ++ y) := by
  refine ⟨by rw [strLen_append]; have := g.len; have := h.len; omega, ?_⟩
  have h1 := g.ok
  have h2 := h.ok
  unfold PyData.strOk at *
  show (x.cps ++ y.cps).all _ = true
  rw [Array.all_append, h1, h2]; rfl
theorem gd_join {k : Nat} : ∀ ts : List Str, (∀ t ∈ ts, Gd k t) → Gd ((k + 2) * ts.length) (Str.join ", " ts)
  | [], _ => ⟨Nat.zero_le _, by decide +kernel⟩
  | [x], h => by
    have g := h x (by simp)
    exact gd_mono g (by simp)
  | x :: y :: r, h => by
    have ih := gd_join (y :: r) fun t ht => h t (List.mem_cons_of_mem _ ht)
    have g := h x (by simp)
    have c : Gd 2 (", " : String) := ⟨by decide +kernel, by decide +kernel⟩
    refine gd_mono (gd_app (gd_app g c) ih) ?_
    simp only [List.length_cons]
    rw [Nat.mul_add (k + 2) (r.length + 1) 1]; omega
theorem gd_tup {k : Nat} {ts : List Str} (h : ∀ t ∈ ts, Gd k t) : Gd ((k + 2) * ts.length + 3) (tupleText ts) := by
  unfold tupleText
  have a : Gd 1 ("(" : Str) := ⟨by decide +kernel, by decide +kernel⟩
  have b : Gd 2 ((if ts.length == 1 then ",)" else ")" : String) : Str) := by split <;> exact ⟨by decide +kernel, by decide +kernel⟩
  exact gd_mono (gd_app (gd_app a (gd_join ts h)) b) (by omega)
theorem gd_from {k : Nat} : ∀ (ts : List Str) (i a : Nat) (acc : Str), (∀ t ∈ ts, Gd k t) → Gd a acc → Gd (a + (k + 2) * ts.length) (textFrom i acc ts)
  | [], i, a, acc, _, g => by unfold textFrom; exact gd_mono g (by simp)
  | t :: ts, i, a, acc, h, g => by
    unfold textFrom
    have b : Gd 2 ((if i > 0 then ", " else "" : String) : Str) := by split <;> exact ⟨by decide +kernel, by decide +kernel⟩
    have g2 := gd_app (gd_app g b) (h t (by simp))
    refine gd_mono (gd_from ts (i + 1) _ _ (fun u hu => h u (List.mem_cons_of_mem _ hu)) g2) ?_
    simp only [List.length_cons]
    rw [Nat.mul_add (k + 2) ts.length 1]; omega
theorem gd_list {k : Nat} {ts : List Str} (h : ∀ t ∈ ts, Gd k t) : Gd ((k + 2) * ts.length + 2) (listText ts) := by
  unfold listText
  have a : Gd 1 ("[" : Str) := ⟨by decide +kernel, by decide +kernel⟩
  have b : Gd 1 ("]" : Str) := ⟨by decide +kernel, by decide +kernel⟩
  exact gd_mono (gd_app (gd_from ts 0 1 _ h a) b) (by omega)
theorem gd_int {i : Int} (h : 0 ≤ i ∧ i < 100) : Gd 3 (PyData.shown (.int i)) := by
  have key : ∀ k : Fin 100, (PyData.shown (.int ((k.val : Nat) : Int))).length ≤ 3 ∧ PyData.strOk (PyData.shown (.int ((k.val : Nat) : Int))) = true := by decide +kernel
  have := key ⟨i.toNat, by omega⟩
  simp only at this
  rw [show ((i.toNat : Nat) : Int) = i by omega] at this
  exact ⟨this.1, this.2⟩
theorem gd_bool (b : Bool) : Gd 5 (PyData.shown (.bool b)) := by
  cases b <;> exact ⟨by decide +kernel, by decide +kernel⟩
theorem shownAll_map (xs : List PyData) : PyData.shownAll xs = xs.map PyData.shown := by
  induction xs with
  | nil => rfl
  | cons x xs ih => simp only [PyData.shownAll, List.map_cons, ih]
theorem gd_tuple {k : Nat} {xs : List PyData} (h : ∀ x ∈ xs, Gd k x.shown) : Gd ((k + 2) * xs.length + 3) (PyData.shown (.tuple xs)) := by
  have : PyData.shown (.tuple xs) = tupleText (xs.map PyData.shown) := by simp only [PyData.shown, shownAll_map]
  rw [this]
  have g := gd_tup (k := k) (ts := xs.map PyData.shown) fun t ht => by
    obtain ⟨x, hx, rfl⟩ := List.mem_map.mp ht
    exact h x hx
  simpa using g
theorem gd_ints {L : List Int} (h : ∀ v ∈ L, 0 ≤ v ∧ v < 100) : Gd (5 * L.length + 3) (PyData.shown (.tuple (L.map PyData.int))) := by
  have g := gd_tuple (k := 3) (xs := L.map PyData.int) fun x hx => by
    obtain ⟨v, hv, rfl⟩ := List.mem_map.mp hx
    exact gd_int (h v hv)
  simpa using g
theorem show_ints {L : List Int} (h : ∀ v ∈ L, 0 ≤ v ∧ v < 100) : PyData.showableAll (L.map PyData.int) = true := by
  induction L with
  | nil => rfl
  | cons v L ih =>
    have hv := h v (by simp)
    have : v.natAbs.log2 < 1920 := by
      have h1 : v.natAbs.log2 ≤ v.natAbs := Nat.log2_le_self _
      omega
    simp only [List.map_cons, PyData.showableAll, PyData.showable, decide_eq_true this, ih fun u hu => h u (List.mem_cons_of_mem _ hu), Bool.and_self]

/-! ### what is told -/
def netP (tr : List Int) (E : E2) : PyData := .tuple [.tuple (tr.map .int), .tuple (E.map fun p => .tuple [.int p.1, .int p.2])]
theorem mapM_lines {st : Store} {n : Nat} : ∀ E : E2, (E.map lineD).mapM (D.toP st (n + 2)) = some (E.map fun p => PyData.tuple [.int p.1, .int p.2])
  | [] => rfl
  | p :: E => by
    rw [List.map_cons, List.mapM_cons, mapM_lines E]; rfl
theorem net_toP {st : Store} (tr : List Int) (E : E2) : R.toP st 60 (.v (netD tr E)) = some (netP tr E) := by
  have h1 : D.toP st 59 (.tup (tr.map .int)) = some (.tuple (tr.map .int)) := by simp only [D.toP, mapM_ints, Option.map_some]
  have h2 : D.toP st 59 (.tup (E.map lineD)) = some (.tuple (E.map fun p => .tuple [.int p.1, .int p.2])) := by
    rw [D.toP, mapM_lines]; rfl
  show D.toP st 60 (.tup [.tup (tr.map .int), .tup (E.map lineD)]) = _
  rw [D.toP, List.mapM_cons, List.mapM_cons, h1, h2]; rfl
/-- a net as the law draws it -/
structure NOk (n : Nat) (tr : List Int) (E : E2) : Prop where
  eok : EOk n E
  len : tr.length = n
  trs : ∀ v ∈ tr, 0 ≤ v ∧ v < 100
  few : E.length < 1000
theorem net_show {n : Nat} {tr : List Int} {E : E2} (h : NOk n tr E) : (netP tr E).showable = true ∧ Gd 1000000 (netP tr E).shown := by
  have hb : ∀ p ∈ E, (0 ≤ p.1 ∧ p.1 < 100) ∧ 0 ≤ p.2 ∧ p.2 < 100 := fun p hp => by
    have := h.eok.bnd p hp
    have := h.eok.small
    omega
  have two : ∀ p ∈ E, ∀ v ∈ [p.1, p.2], 0 ≤ v ∧ v < 100 := fun p hp v hv => by
    have := hb p hp
    rcases List.mem_cons.mp hv with e | e
    · rw [e]; exact this.1
    · rw [List.mem_singleton.mp e]; exact this.2
  constructor
  · have hl : ∀ E' : E2, (∀ p ∈ E', ∀ v ∈ [p.1, p.2], 0 ≤ v ∧ v < 100) → PyData.showableAll (E'.map fun p => PyData.tuple [.int p.1, .int p.2]) = true := by
      intro E'
      induction E' with
      | nil => intro _; rfl
      | cons p E' ih =>
        intro hE
        have h1 := show_ints (hE p (by simp))
        have h2 := ih fun q hq => hE q (List.mem_cons_of_mem _ hq)
        simp only [List.map_cons, List.map_nil] at h1
        simp only [List.map_cons, PyData.showableAll, PyData.showable] at h1 h2 ⊢
        rw [h2, h1]; rfl
    unfold netP
    simp only [PyData.showable, PyData.showableAll, show_ints h.trs, hl E two, Bool.and_self]
  · have g1 := gd_ints h.trs
    have g2 : Gd (15 * E.length + 3) (PyData.shown (.tuple (E.map fun p => .tuple [.int p.1, .int p.2]))) := by
      have g := gd_tuple (k := 13) (xs := E.map fun p => PyData.tuple [.int p.1, .int p.2]) fun x hx => by
        obtain ⟨p, hp, rfl⟩ := List.mem_map.mp hx
        exact gd_ints (two p hp)
      simpa using g
    have hs := h.eok.small
    have hl := h.len
    have hf := h.few
    have g := gd_tuple (k := 100000) (xs := [.tuple (tr.map .int), .tuple (E.map fun p => .tuple [.int p.1, .int p.2])]) fun x hx => by
      rcases List.mem_cons.mp hx with e | e
      · rw [e]; exact gd_mono g1 (by omega)
      · rw [List.mem_singleton.mp e]; exact gd_mono g2 (by omega)
    exact gd_mono g (by simp)
theorem repr_ok {st : Store} {r : R} {p : PyData} (h : r.toP st 60 = some p) (hs : p.showable = true) (hg : Gd 1000000 p.shown) : gRepr r st = .ok (.v (.str p.shown)) st := by
  unfold gRepr; rw [h]; simp only; rw [if_pos ⟨hs, hg.len⟩]
theorem gEq_str {st : Store} {k : Nat} {x : Str} (g : Gd k x) : gEq (.v (.str x)) (.v (.str x)) st = .ok (.v (.bl true)) st := by
  have e : R.toP st 60 (.v (.str x)) = some (.str x) := by
    show D.toP st 60 (.str x) = _
    rw [D.toP, if_pos g.ok]
  simp [gEq, e, PyData.eqv]
def toldP (L : List Int) : PyData := .list [.tuple (L.map .int), .bool L.isEmpty]
theorem told_show {L : List Int} (h : ∀ v ∈ L, 0 ≤ v ∧ v < 100) (hl : L.length < 1000) : (toldP L).showable = true ∧ Gd 1000000 (toldP L).shown := by
  constructor
  · unfold toldP
    simp only [PyData.showable, PyData.showableAll, show_ints h, Bool.and_self]
  · have e : (toldP L).shown = listText [PyData.shown (.tuple (L.map .int)), PyData.shown (.bool L.isEmpty)] := by
      unfold toldP; simp only [PyData.shown, PyData.shownAll]
    rw [e]
    have g := gd_list (k := 10000) (ts := [PyData.shown (.tuple (L.map .int)), PyData.shown (.bool L.isEmpty)]) fun t ht => by
      rcases List.mem_cons.mp ht with e | e
      · rw [e]; exact gd_mono (gd_ints h) (by omega)
      · rw [List.mem_singleton.mp e]; exact gd_mono (gd_bool _) (by omega)
    exact gd_mono g (by simp)
theorem ungL_bnd {n : Nat} {tr : List Int} {E : E2} (h : NOk n tr E) : (∀ v ∈ ungL tr E, 0 ≤ v ∧ v < 100) ∧ (ungL tr E).length < 1000 := by
  have hs := h.eok.small
  have hl := h.len
  constructor
  · intro v hv
    have := mem_rngI.mp (List.mem_filter.mp hv).1
    omega
  · have h1 := List.length_filter_le (fun i => decide (tr.getD i.toNat 0 = 1) && up tr.length E i) (rngI tr.length)
    have h2 : (rngI tr.length).length = tr.length := by simp [rngI]
    unfold ungL; omega
end K41

set_option Elab.async false
set_option linter.all false
set_option maxRecDepth 100000
set_option maxHeartbeats 4000000
set_option autoImplicit false
namespace K41
open PySem PySem.Spec PyProof.Rows L2 Fx

theorem ev_callK {F : FF} {ix : List Nat} {g : FA} {env : Fx.Env} {st : Store} {ds : List D} {r : R} (h1 : g env st = .ok ds st) (h2 : F (pick ix ds) st = .ok r st) : fCallK F ix g env st = .ok r st := by
  unfold fCallK; rw [h1]; simp only [Out.bind]; rw [h2]; exact gc_same
theorem ev_andV {fa fb : FE} {env : Fx.Env} {st st1 : Store} (h1 : fa env st = .ok (.v (.bl true)) st1) : fAndV fa fb env st = fb env st1 := by
  unfold fAndV; rw [h1]; rfl
end K41

set_option Elab.async false
set_option linter.all false
set_option maxRecDepth 100000
set_option maxHeartbeats 4000000
set_option autoImplicit false
namespace K41
open PySem PySem.Spec PyProof.Rows L2 Fx

/-! ### what is drawn of -/
def bagK (m t : Int) : List (Key × D) := [(.inr "far", .ref 0), (.inr "mixed", .int m), (.inr "turn", .int t)]
def sB (st : Store) (far : List Int) (m t : Int) : Store := (st.set 0 (.lst (far.map .int))).set 1 (.dK (bagK m t))
structure Bag (st : Store) : Prop where
  two : 2 ≤ st.length
  ex : ∃ far m t, st = sB st far m t ∧ far.length ≤ 1000
section
variable {st : Store} {far far' : List Int} {m t m' t' : Int}
theorem sB_len : (sB st far m t).length = st.length := by simp [sB]
theorem sB0 (h : 2 ≤ st.length) : (sB st far m t)[0]? = some (.lst (far.map .int)) := by
  unfold sB; rw [List.getElem?_set_ne (by decide), List.getElem?_set_self (by omega)]
theorem sB1 (h : 2 ≤ st.length) : (sB st far m t)[1]? = some (.dK (bagK m t)) := by
  unfold sB; rw [List.getElem?_set_self (by simp; omega)]
theorem sB_ge {i : Nat} (h : 2 ≤ i) : (sB st far m t)[i]? = st[i]? := by
  unfold sB; rw [List.getElem?_set_ne (by omega), List.getElem?_set_ne (by omega)]
theorem sB_set0 : (sB st far m t).set 0 (.lst (far'.map .int)) = sB st far' m t := by
  unfold sB; rw [List.set_comm _ _ (by decide), List.set_set]
theorem sB_set1 : (sB st far m t).set 1 (.dK (bagK m' t')) = sB st far m' t' := by
  unfold sB; rw [List.set_set]
theorem sB_sB : sB (sB st far m t) far' m' t' = sB st far' m' t' := by
  show ((sB st far m t).set 0 _).set 1 _ = _
  rw [sB_set0, sB_set1]
theorem bag_sB (h : 2 ≤ st.length) (hl : far.length ≤ 1000) : Bag (sB st far m t) := ⟨by rw [sB_len]; exact h, far, m, t, sB_sB.symm, hl⟩
end
/-- as before, but for what is drawn of -/
structure Sx (st st' : Store) : Prop where
  bag : Bag st'
  len : st'.length = st.length
  keep : ∀ i, 2 ≤ i → st'[i]? = st[i]?
theorem Sx.refl {st : Store} (b : Bag st) : Sx st st := ⟨b, rfl, fun _ _ => rfl⟩
theorem Sx.trans {a b c : Store} (h : Sx a b) (h' : Sx b c) : Sx a c := ⟨h'.bag, h'.len.trans h.len, fun i hi => (h'.keep i hi).trans (h.keep i hi)⟩
theorem sx_sB {st : Store} {far : List Int} {m t : Int} (h : 2 ≤ st.length) (hl : far.length ≤ 1000) : Sx st (sB st far m t) := ⟨bag_sB h hl, sB_len, fun i hi => sB_ge hi⟩
theorem Bag.app {st : Store} (b : Bag st) (ex : Store) : Bag (st ++ ex) := by
  obtain ⟨far, m, t, e, hl⟩ := b.ex
  have h2 := b.two
  refine ⟨by simp; omega, far, m, t, ?_, hl⟩
  unfold sB at e ⊢
  rw [List.set_append_left _ _ (by omega), List.set_append_left _ _ (by simp; omega), ← e]
theorem Sx.split {st ex X : Store} (h2 : 2 ≤ st.length) (h : Sx (st ++ ex) X) : ∃ st', X = st' ++ ex ∧ Sx st st' := by
  have hl := h.len
  rw [List.length_append] at hl
  obtain ⟨far, m, t, e, hf⟩ := h.bag.ex
  refine ⟨X.take st.length, ?_, ?_⟩
  · conv => lhs; rw [← List.take_append_drop st.length X]
    congr 1
    refine List.ext_getElem? fun i => ?_
    rw [List.getElem?_drop, h.keep _ (by omega), List.getElem?_append_right (by omega)]
    congr 1; omega
  · refine ⟨⟨by rw [List.length_take]; omega, far, m, t, ?_, hf⟩, by rw [List.length_take]; omega, fun i hi => ?_⟩
    · have h0 := sB0 (st := X) (far := far) (m := m) (t := t) h.bag.two
      have h1 := sB1 (st := X) (far := far) (m := m) (t := t) h.bag.two
      rw [← e] at h0 h1
      refine List.ext_getElem? fun i => ?_
      have hT : 2 ≤ (X.take st.length).length := by rw [List.length_take]; omega
      by_cases i0 : i = 0
      · subst i0; rw [sB0 hT, List.getElem?_take_of_lt (by omega)]; exact h0
      · by_cases i1 : i = 1
        · subst i1; rw [sB1 hT, List.getElem?_take_of_lt (by omega)]; exact h1
        · rw [sB_ge (by omega)]
    · by_cases hi2 : i < st.length
      · rw [List.getElem?_take_of_lt hi2, h.keep i hi, List.getElem?_append_left hi2]
      · rw [List.getElem?_eq_none (by rw [List.length_take]; omega), List.getElem?_eq_none (by omega)]
theorem Sx.app {st st' : Store} (h : Sx st st') (ex : Store) : Sx (st ++ ex) (st' ++ ex) := by
  refine ⟨h.bag.app ex, by simp [h.len], fun i hi => ?_⟩
  by_cases hl : i < st.length
  · rw [List.getElem?_append_left (by rw [h.len]; exact hl), List.getElem?_append_left hl, h.keep i hi]
  · rw [List.getElem?_append_right (by rw [h.len]; omega), List.getElem?_append_right (by omega), h.len]
theorem sx_old {st st' : Store} (b : Bag st) (h : Sx st st') (ex : Store) : OldOk st (st' ++ ex) := by
  have h2 := b.two
  have hl := h.len
  refine ⟨by simp; omega, fun i o hi e => ?_⟩
  rw [List.getElem?_append_left (by omega)] at e
  by_cases i2 : 2 ≤ i
  · rw [h.keep i i2] at e; exact .inl e
  · obtain ⟨far, m, t, es, _⟩ := h.bag.ex
    have h0 := sB0 (st := st') (far := far) (m := m) (t := t) h.bag.two
    have h1 := sB1 (st := st') (far := far) (m := m) (t := t) h.bag.two
    rw [← es] at h0 h1
    right
    by_cases i0 : i = 0
    · subst i0; rw [h0] at e; cases e; exact bls_ints far
    · have : i = 1 := by omega
      subst this
      rw [h1] at e; cases e
      intro p hp
      unfold bagK at hp
      simp only [List.mem_cons, List.not_mem_nil, or_false] at hp
      rcases hp with q | q | q
      · rw [q]; exact .ref (by omega)
      · rw [q]; exact .int _
      · rw [q]; exact .int _
theorem gc_sx {st st' : Store} (b : Bag st) (h : Sx st st') (ex : Store) {d : D} (hd : Bl 0 d) : gc st (.ok (.v d) (st' ++ ex)) = .ok (.v d) st' := by
  rw [gc_take (sx_old b h ex) (hd.mono (Nat.zero_le _)), ← h.len, List.take_left]
theorem gc_sx0 {st st' : Store} (b : Bag st) (h : Sx st st') {d : D} (hd : Bl 0 d) : gc st (.ok (.v d) st') = .ok (.v d) st' := by
  have := gc_sx b h [] hd
  simpa using this
theorem gc_sxO {st st' : Store} (b : Bag st) (h : Sx st st') (ex : Store) {x : O} (hx : OBl st.length x) : gc st (.ok (.o x) (st' ++ ex)) = .ok (.o x) st' := by
  unfold gc
  simp only [if_pos (sx_old b h ex), if_pos hx]
  rw [← h.len, List.take_left]
theorem gc_sxR {st st' : Store} (b : Bag st) (h : Sx st st') (ex : Store) {n : Nat} {x : O} (hn : st.length ≤ n) (hg : (st' ++ ex)[n]? = some x) (hx : OBl st.length x) : gc st (.ok (.v (.ref n)) (st' ++ ex)) = .ok (.o x) st' := by
  unfold gc
  have nb : ¬ Bl st.length (.ref n) := fun z => by
    cases z with
    | ref q => omega
  simp only [if_pos (sx_old b h ex), if_neg nb, hg, if_pos hx]
  rw [← h.len, List.take_left]

section
variable {st : Store} {far : List Int} {m t : Int} {env : Fx.Env}
theorem ix_str {st : Store} {n : Nat} {kvs : List (Key × D)} {x : Str} {d : D} (h : st[n]? = some (.dK kvs)) (hv : valD kvs (.inr x) = some d) : gIx (.v (.ref n)) (.v (.str x)) st = .ok (.v d) st := by
  have e : seqL st (.v (.ref n)) = none := by simp [seqL, h]
  unfold gIx idx
  simp only [e, Fx.dictGet, objOf_ref, h, D.key, Option.map_some, hv, Option.bind_some, id]
theorem ixFar (h : 2 ≤ st.length) (h0 : env[0]? = some (some (.ref 1))) : (fBin gIx (fName 0) (fC (.str "far"))) env (sB st far m t) = .ok (.v (.ref 0)) (sB st far m t) :=
  (ev_bin (ev_name h0) ev_c).trans (ix_str (sB1 h) (by rfl))
theorem ixTurn (h : 2 ≤ st.length) (h0 : env[0]? = some (some (.ref 1))) : (fBin gIx (fName 0) (fC (.str "turn"))) env (sB st far m t) = .ok (.v (.int t)) (sB st far m t) :=
  (ev_bin (ev_name h0) ev_c).trans (ix_str (sB1 h) (by rfl))
theorem ixMixed (h : 2 ≤ st.length) (h0 : env[0]? = some (some (.ref 1))) : (fBin gIx (fName 0) (fC (.str "mixed"))) env (sB st far m t) = .ok (.v (.int m)) (sB st far m t) :=
  (ev_bin (ev_name h0) ev_c).trans (ix_str (sB1 h) (by rfl))
theorem putTurn (h : 2 ≤ st.length) (t' : Int) : Fx.putAt (.v (.ref 1)) (.v (.str "turn")) (.int t') (sB st far m t) = some (sB st far m t') := by
  unfold Fx.putAt
  simp only [sB1 h]
  rw [if_pos (by simp [bagK])]
  have e : putD (bagK m t) (.inr "turn") (.int t') = bagK m t' := by rfl
  simp only [D.key, Option.map_some, e, sB_set1]
theorem ix_last {st : Store} {n : Nat} {xs : List D} {d : D} (h : st[n]? = some (.lst (xs ++ [d]))) : gIx (.v (.ref n)) (.v (.int (-1))) st = .ok (.v d) st := by
  have e : L2.atI (xs ++ [d]) (-1) = some d := by
    unfold L2.atI L2.ixN
    have k : ((-1 : Int) + ((xs ++ [d]).length : Nat)).toNat = xs.length := by simp; omega
    rw [if_neg (by decide), if_pos (by simp; omega)]
    show (xs ++ [d])[((-1 : Int) + ((xs ++ [d]).length : Nat)).toNat]? = some d
    rw [k]; simp
  unfold gIx idx
  simp only [seqL_ref h, e]
end
theorem ev_neg {f : FE} {env : Fx.Env} {st st1 : Store} {i : Int} (h : f env st = .ok (.v (.int i)) st1) : fNeg f env st = .ok (.v (.int (-i))) st1 := by
  unfold fNeg; rw [h]; rfl
theorem g_mod {st : Store} (i j : Int) (h : 0 < j) : gMod (.v (.int i)) (.v (.int j)) st = .ok (.v (.int (i % j))) st := by
  show (if 0 < j then _ else _) = _
  rw [if_pos h]
theorem g_div {st : Store} (i j : Int) (h : 0 < j ∧ j < 1073741824) : gDiv (.v (.int i)) (.v (.int j)) st = .ok (.v (.int (i / j))) st := by
  show (if 0 < j ∧ j < 1073741824 then _ else _) = _
  rw [if_pos h]
theorem g_add {st : Store} (i j : Int) : gAdd (.v (.int i)) (.v (.int j)) st = .ok (.v (.int (i + j))) st := rfl
theorem g_mul {st : Store} (i j : Int) (h : i.natAbs < 1000000000000000000 ∨ j.natAbs < 1000000000000000000) : gMul (.v (.int i)) (.v (.int j)) st = .ok (.v (.int (i * j))) st := by
  unfold gMul
  simp only
  rw [if_pos h]
theorem ev_int {f : FE} {env : Fx.Env} {st st1 : Store} {i : Int} (h : f env st = .ok (.v (.int i)) st1) : fCall1 gInt f env st = .ok (.v (.int i)) st1 := by
  rw [ev_call1 h]; rfl
theorem F_draw_eq {st : Store} (b : Bag st) (many : Int) (h1 : 1 ≤ many) (h2 : many < 1073741824) : ∃ r st', F_law_draw [.ref 1, .int many] st = .ok (.v (.int r)) st' ∧ (0 ≤ r ∧ r < many) ∧ Sx st st' := by
  obtain ⟨far0, m, t, es, hf0⟩ := b.ex
  have two := b.two
  have e : F_law_draw [.ref 1, .int many] st = gc st (retOf (B_law_draw [some (.ref 1), some (.int many), none, none] st)) := rfl
  have hmod : ∀ x : Int, 0 ≤ x % many ∧ x % many < many := fun x => ⟨Int.emod_nonneg _ (by omega), Int.emod_lt_of_pos _ (by omega)⟩
  have cond : ∀ far : List Int, (fAnd (fTrue (fBin gNe (fBin gIx (fName 0) (fC (.str "far"))) (fLst fNil))) (fTrue (fBin gEq (fBin gIx (fBin gIx (fName 0) (fC (.str "far"))) (fNeg (fC (.int 1)))) (fC (.int 0))))) [some (.ref 1), some (.int many), none, none] (sB st far m t)
      = .ok (match far.getLast? with | some x => decide (x = 0) | none => false) (sB st far m t) := by
    intro far
    have a1 : (fTrue (fBin gNe (fBin gIx (fName 0) (fC (.str "far"))) (fLst fNil))) [some (.ref 1), some (.int many), none, none] (sB st far m t) = .ok (!far.isEmpty) (sB st far m t) :=
      ev_true ((ev_bin (ixFar two rfl) (ev_lst ev_nil (by simp))).trans (gNe_empty far (sB0 two)))
    rw [ev_and a1]
    rcases List.eq_nil_or_concat far with q | ⟨f', x, q⟩
    · subst q; rfl
    · have q' : far = f' ++ [x] := by rw [q]; simp
      clear q
      subst q'
      rw [if_pos (by simp)]
      have g0 := sB0 (st := st) (far := f' ++ [x]) (m := m) (t := t) two
      rw [List.map_append] at g0
      refine (ev_true ((ev_bin ((ev_bin (ixFar two rfl) (ev_neg ev_c)).trans (ix_last g0)) ev_c).trans (gEq_int x 0))).trans ?_
      simp
  have a1 : ∀ (far : List Int) (env : Fx.Env), env[0]? = some (some (.ref 1)) → (fTrue (fBin gNe (fBin gIx (fName 0) (fC (.str "far"))) (fLst fNil))) env (sB st far m t) = .ok (!far.isEmpty) (sB st far m t) := fun far env h0 =>
    ev_true ((ev_bin (ixFar two h0) (ev_lst ev_nil (by simp))).trans (gNe_empty far (sB0 two)))
  have popS : ∀ (far' : List Int) (x : Int), gPop (.v (.ref 0)) (sB st (far' ++ [x]) m t) = .ok (.v (.int x)) (sB st far' m t) := fun far' x => by
    have := pop_last (st := sB st (far' ++ [x]) m t) (n := 0) (xs := far'.map .int) (d := .int x) (by rw [sB0 two]; simp)
    rw [sB_set0] at this; exact this
  obtain ⟨e', s', w1, far, rfl, rfl, hfl⟩ := fWhile_inv (c := fAnd (fTrue (fBin gNe (fBin gIx (fName 0) (fC (.str "far"))) (fLst fNil))) (fTrue (fBin gEq (fBin gIx (fBin gIx (fName 0) (fC (.str "far"))) (fNeg (fC (.int 1)))) (fC (.int 0))))) (body := W_law_draw_1) (e0 := [some (.ref 1), some (.int many), none, none]) (st := sB st far0 m t)
    (fun env s => ∃ far : List Int, env = [some (.ref 1), some (.int many), none, none] ∧ s = sB st far m t ∧ far.length ≤ 1000) (fun env s => ∃ far : List Int, env = [some (.ref 1), some (.int many), none, none] ∧ s = sB st far m t ∧ far.length ≤ 1000)
    (fun _ s => match s[0]? with | some (O.lst xs) => xs.length | _ => 0) ⟨far0, rfl, rfl, hf0⟩ (by
      rintro env s ⟨far, rfl, rfl, hl⟩
      rcases List.eq_nil_or_concat far with q | ⟨f', x, q⟩
      · subst q; exact .inl ⟨_, cond [], [], rfl, rfl, hl⟩
      · have q' : far = f' ++ [x] := by rw [q]; simp
        clear q
        subst q'
        have hc := cond (f' ++ [x])
        simp only [List.getLast?_append, List.getLast?_singleton, Option.some_or] at hc
        by_cases hx : x = 0
        · subst hx
          refine .inr ⟨_, [some (.ref 1), some (.int many), none, none], sB st f' m t, by rw [hc]; rfl, ?_, rfl, ⟨f', rfl, rfl, by simp at hl; omega⟩, ?_⟩
          · unfold W_law_draw_1
            exact ex_expr ((ev_meth0 (ixFar two rfl) (seqL_ref (sB0 two))).trans (popS f' 0))
          · simp only [sB0 two]; simp
        · exact .inl ⟨_, by rw [hc]; simp [hx], f' ++ [x], rfl, rfl, hl⟩)
  rw [e]
  have w1' : fWhile (fAnd (fTrue (fBin gNe (fBin gIx (fName 0) (fC (.str "far"))) (fLst fNil))) (fTrue (fBin gEq (fBin gIx (fBin gIx (fName 0) (fC (.str "far"))) (fNeg (fC (.int 1)))) (fC (.int 0))))) W_law_draw_1 [some (.ref 1), some (.int many), none, none] st = .next [some (.ref 1), some (.int many), none, none] (sB st far m t) := by
    have := w1
    rwa [← es] at this
  unfold B_law_draw
  rw [ex_seq w1']
  rcases List.eq_nil_or_concat far with q | ⟨f', x, q⟩
  · subst q
    rw [ex_seq (e1 := [some (.ref 1), some (.int many), none, none]) (st1 := sB st [] m t) (by rw [ex_if (a1 [] _ rfl)]; rfl)]
    have p1 : fPut (fBin gAdd (fBin gIx (fName 0) (fC (.str "turn"))) (fC (.int 1))) (fName 0) (fC (.str "turn")) [some (.ref 1), some (.int many), none, none] (sB st [] m t) = .next [some (.ref 1), some (.int many), none, none] (sB st [] m (t + 1)) :=
      ex_put ((ev_bin (ixTurn two rfl) ev_c).trans (g_add _ _)) (ev_name rfl) ev_c (putTurn two _)
    rw [ex_seq p1]
    rw [ex_seq (ex_set ((ev_bin (ev_int ((ev_bin (ixMixed two rfl) ((ev_bin (ixTurn two rfl) ev_c).trans (g_mul _ _ (.inr (by decide))))).trans (g_add _ _))) ev_c).trans (g_mod _ _ (by decide))))]
    generalize hone : (m + (t + 1) * 40503) % 2147483587 = one
    have hone' : one.natAbs < 1000000000000000000 := by
      have h1 := Int.emod_nonneg (m + (t + 1) * 40503) (show (2147483587 : Int) ≠ 0 by decide)
      have h2 := Int.emod_lt_of_pos (m + (t + 1) * 40503) (show (0 : Int) < 2147483587 by decide)
      omega
    rw [ex_seq (ex_set ((ev_bin (ev_int ((ev_bin ((ev_bin ((ev_bin (ev_name rfl) (ev_name rfl)).trans (g_mul _ _ (.inl hone'))) ((ev_bin (ixTurn two rfl) ev_c).trans (g_mul _ _ (.inr (by decide))))).trans (g_add _ _)) ev_c).trans (g_add _ _))) ev_c).trans (g_mod _ _ (by decide))))]
    generalize htwo : (one * one + (t + 1) * 16807 + 7) % 2147483629 = tw
    have hlast : (fBin gMod (fCall1 gInt (fBin gDiv (fBin gMod (fCall1 gInt (fBin gAdd (fBin gMul (fName 2) (fC (.int 48271))) (fBin gIx (fName 0) (fC (.str "mixed"))))) (fC (.int 2147483563))) (fC (.int 128)))) (fName 1)) (((([some (.ref 1), some (.int many), none, none] : Fx.Env).set 2 (some (.int one))).set 2 (some (.int tw)))) (sB st [] m (t + 1))
        = .ok (.v (.int ((tw * 48271 + m) % 2147483563 / 128 % many))) (sB st [] m (t + 1)) :=
      (ev_bin (ev_int ((ev_bin ((ev_bin (ev_int ((ev_bin ((ev_bin (ev_name rfl) ev_c).trans (g_mul _ _ (.inr (by decide)))) (ixMixed two rfl)).trans (g_add _ _))) ev_c).trans (g_mod _ _ (by decide))) ev_c).trans (g_div _ _ (by decide)))) (ev_name rfl)).trans (g_mod _ _ (by omega))
    rw [ex_ret hlast]
    have sx : Sx st (sB st [] m (t + 1)) := sx_sB two (by simp)
    exact ⟨_, _, gc_sx0 b sx (.int _), hmod _, sx⟩
  · have q' : far = f' ++ [x] := by rw [q]; simp
    clear q
    subst q'
    simp only [List.length_append, List.length_cons, List.length_nil] at hfl
    have p1 : fSet 3 (fMeth0 gPop (fBin gIx (fName 0) (fC (.str "far")))) [some (.ref 1), some (.int many), none, none] (sB st (f' ++ [x]) m t) = .next [some (.ref 1), some (.int many), none, some (.int x)] (sB st f' m t) := by
      rw [ex_set ((ev_meth0 (ixFar two rfl) (seqL_ref (sB0 two))).trans (popS f' x))]; rfl
    have p2 : fExpr (fMeth1 gAppend (fBin gIx (fName 0) (fC (.str "far"))) (fBin gDiv (fName 3) (fName 1))) [some (.ref 1), some (.int many), none, some (.int x)] (sB st f' m t) = .next [some (.ref 1), some (.int many), none, some (.int x)] (sB st (f' ++ [x / many]) m t) := by
      have := app_int (st := sB st f' m t) (n := 0) (x / many) (sB0 two) (by omega)
      rw [sB_set0] at this
      exact ex_expr ((ev_meth1 (ixFar two rfl) (seqL_ref (sB0 two)) ((ev_bin (ev_name rfl) (ev_name rfl)).trans (g_div _ _ ⟨by omega, h2⟩))).trans this)
    have p3 : fRet (fCall1 gInt (fBin gMod (fName 3) (fName 1))) [some (.ref 1), some (.int many), none, some (.int x)] (sB st (f' ++ [x / many]) m t) = .ret (.v (.int (x % many))) (sB st (f' ++ [x / many]) m t) :=
      ex_ret (ev_int ((ev_bin (ev_name rfl) (ev_name rfl)).trans (g_mod _ _ (by omega))))
    have hif : fIfS (fTrue (fBin gNe (fBin gIx (fName 0) (fC (.str "far"))) (fLst fNil))) (fSeq (fSet 3 (fMeth0 gPop (fBin gIx (fName 0) (fC (.str "far"))))) (fSeq (fExpr (fMeth1 gAppend (fBin gIx (fName 0) (fC (.str "far"))) (fBin gDiv (fName 3) (fName 1)))) (fRet (fCall1 gInt (fBin gMod (fName 3) (fName 1)))))) fSkip [some (.ref 1), some (.int many), none, none] (sB st (f' ++ [x]) m t) = .ret (.v (.int (x % many))) (sB st (f' ++ [x / many]) m t) := by
      rw [ex_if (a1 _ _ rfl), if_pos (by simp), ex_seq p1, ex_seq p2, p3]
    rw [ex_seqR hif]
    have sx : Sx st (sB st (f' ++ [x / many]) m t) := sx_sB two (by simp; omega)
    exact ⟨_, _, gc_sx0 b sx (.int _), hmod _, sx⟩
end K41

set_option Elab.async false
set_option linter.all false
set_option maxRecDepth 100000
set_option maxHeartbeats 4000000
set_option autoImplicit false
namespace K41
open PySem PySem.Spec PyProof.Rows L2 Fx

theorem draw_call {fb fm : FE} {env : Fx.Env} {st : Store} (b : Bag st) {many : Int} (h1 : fb env st = .ok (.v (.ref 1)) st) (h2 : fm env st = .ok (.v (.int many)) st) (m1 : 1 ≤ many) (m2 : many < 1073741824) :
    ∃ r st', fCall F_law_draw (fCons fb (fCons fm fNil)) env st = .ok (.v (.int r)) st' ∧ (0 ≤ r ∧ r < many) ∧ Sx st st' := by
  obtain ⟨r, st', q1, q2, q3⟩ := F_draw_eq b many m1 m2
  exact ⟨r, st', by rw [ev_call (ev_consV h1 (ev_consV h2 ev_nil)) q1]; exact gc_sx0 b q3 (.int _), q2, q3⟩
theorem len_ref {env : Fx.Env} {st : Store} {f : FE} {n : Nat} {xs : List D} (h : f env st = .ok (.v (.ref n)) st) (hg : st[n]? = some (O.lst xs)) : fCall1 gLen f env st = .ok (.v (.int (xs.length : Int))) st := by
  rw [ev_call1 h]; simp only [gLen, seqL_ref hg]
theorem F_pick_eq {st : Store} (b : Bag st) {n : Nat} {xs : List D} (hn : 2 ≤ n) (hg : st[n]? = some (O.lst xs)) (hc : ∀ d ∈ xs, Bl 0 d) (h1 : 1 ≤ xs.length) (h2 : xs.length < 1073741824) :
    ∃ d st', F_law_pick [.ref 1, .ref n] st = .ok (.v d) st' ∧ d ∈ xs ∧ Sx st st' := by
  have e : F_law_pick [.ref 1, .ref n] st = gc st (retOf (B_law_pick [some (.ref 1), some (.ref n)] st)) := rfl
  obtain ⟨r, st', q1, q2, q3⟩ := draw_call (env := [some (.ref 1), some (.ref n)]) (fb := fName 0) (fm := fCall1 gLen (fName 1)) b (ev_name rfl) (len_ref (ev_name rfl) hg) (by omega) (by omega)
  have hr : r.toNat < xs.length := by omega
  have hx : xs[r.toNat]? = some xs[r.toNat] := List.getElem?_eq_getElem hr
  refine ⟨xs[r.toNat], st', ?_, List.getElem_mem hr, q3⟩
  rw [e]
  unfold B_law_pick
  have ix := ix_lst (st := st') (n := n) (by rw [q3.keep n hn]; exact hg) hx
  rw [show ((r.toNat : Nat) : Int) = r by omega] at ix
  rw [ex_ret ((ev_bin (ev_name rfl) q1).trans ix)]
  exact gc_sx0 b q3 (hc _ (List.getElem_mem hr))
theorem pick_ref {fb fi : FE} {env : Fx.Env} {st : Store} (b : Bag st) {n : Nat} {xs : List D} (g1 : fb env st = .ok (.v (.ref 1)) st) (g2 : fi env st = .ok (.v (.ref n)) st) (hn : 2 ≤ n) (hg : st[n]? = some (O.lst xs)) (hc : ∀ d ∈ xs, Bl 0 d) (h1 : 1 ≤ xs.length) (h2 : xs.length < 1073741824) :
    ∃ d st', fCall F_law_pick (fCons fb (fCons fi fNil)) env st = .ok (.v d) st' ∧ d ∈ xs ∧ Sx st st' := by
  obtain ⟨d, st', q1, q2, q3⟩ := F_pick_eq b hn hg hc h1 h2
  exact ⟨d, st', by rw [ev_call (ev_consV g1 (ev_consV g2 ev_nil)) q1]; exact gc_sx0 b q3 (hc d q2), q2, q3⟩
theorem pick_lit {fb fi : FE} {env : Fx.Env} {st : Store} (b : Bag st) {xs : List D} (g1 : fb env st = .ok (.v (.ref 1)) st) (g2 : fi env st = .ok (.o (O.lst xs)) st) (hc : ∀ d ∈ xs, Bl 0 d) (h1 : 1 ≤ xs.length) (h2 : xs.length < 1073741824) :
    ∃ d st', fCall F_law_pick (fCons fb (fCons fi fNil)) env st = .ok (.v d) st' ∧ d ∈ xs ∧ Sx st st' := by
  obtain ⟨d, X, q1, q2, q3⟩ := F_pick_eq (st := st ++ [O.lst xs]) (n := st.length) (b.app _) b.two (by simp) hc h1 h2
  obtain ⟨st', rfl, sx⟩ := q3.split b.two
  exact ⟨d, st', by rw [ev_call (ev_consV g1 (ev_consO g2 ev_nil)) q1]; exact gc_sx b sx _ (hc d q2), q2, sx⟩

/-! ### a drawn order -/
theorem erase_map {α β : Type} (f : α → β) : ∀ (W : List α) (i : Nat), (W.map f).eraseIdx i = (W.eraseIdx i).map f
  | [], i => by cases i <;> rfl
  | a :: W, 0 => rfl
  | a :: W, i + 1 => by simp only [List.map_cons, List.eraseIdx_cons_succ, erase_map f W i]
theorem popAt_int {st : Store} {n : Nat} {W : List Int} {r : Int} {x : Int} (h : st[n]? = some (O.lst (W.map .int))) (hr : 0 ≤ r ∧ r < W.length) (hl : W.length < 1000000) (hx : W[r.toNat]? = some x) :
    gPopAt (.v (.ref n)) (.v (.int r)) st = .ok (.v (.int x)) (st.set n (O.lst ((W.eraseIdx r.toNat).map .int))) := by
  unfold gPopAt
  simp only [lstAt, h]
  have e : ixN (W.map D.int).length r = some r.toNat := by
    unfold ixN
    rw [if_pos hr.1, if_pos (by simpa using hr.2)]
  simp only [e]
  have e2 : (W.map D.int)[r.toNat]? = some (.int x) := by rw [List.getElem?_map, hx]; rfl
  simp only [e2]
  rw [if_pos (by simp; omega)]
  rw [erase_map]
theorem erase_perm : ∀ (l : List Int) (i : Nat) (h : i < l.length), (l[i] :: l.eraseIdx i).Perm l
  | [], i, h => absurd h (by simp)
  | a :: l, 0, h => List.Perm.refl _
  | a :: l, i + 1, h => by
    have hi : i < l.length := by simpa using h
    have ih := erase_perm l i hi
    show (l[i]'hi :: a :: l.eraseIdx i).Perm (a :: l)
    exact (List.Perm.swap a (l[i]'hi) _).trans (ih.cons a)
theorem F_mixed_eq {st : Store} (b : Bag st) {n : Nat} {xs : List Int} (hn : 2 ≤ n) (hg : st[n]? = some (O.lst (xs.map .int))) (h2 : xs.length < 1000) :
    ∃ (L : List Int) (st' : Store), F_law_mixed [.ref 1, .ref n] st = .ok (.o (O.lst (L.map .int))) st' ∧ Sx st st' ∧ (∀ v ∈ L, v ∈ xs) ∧ L.length ≤ xs.length ∧ L.Perm xs := by
  have e : F_law_mixed [.ref 1, .ref n] st = gc st (retOf (B_law_mixed [some (.ref 1), some (.ref n), none, none] st)) := rfl
  have two := b.two
  let ev : Fx.Env := [some (.ref 1), some (.ref n), some (.ref st.length), some (.ref (st.length + 1))]
  obtain ⟨e', s', w1, s1, F, rfl, rfl, sx, hm, hlF, hPm⟩ := fWhile_inv (c := fTrue (fBin gNe (fName 2) (fLst fNil))) (body := W_law_mixed_1) (e0 := ev) (st := st ++ [O.lst (xs.map .int), O.lst []])
    (fun env s => ∃ (s1 : Store) (W F : List Int), env = ev ∧ s = s1 ++ [O.lst (W.map .int), O.lst (F.map .int)] ∧ Sx st s1 ∧ (∀ v ∈ W, v ∈ xs) ∧ (∀ v ∈ F, v ∈ xs) ∧ W.length + F.length = xs.length ∧ (F ++ W).Perm xs)
    (fun env s => ∃ (s1 : Store) (F : List Int), env = ev ∧ s = s1 ++ [O.lst [], O.lst (F.map .int)] ∧ Sx st s1 ∧ (∀ v ∈ F, v ∈ xs) ∧ F.length ≤ xs.length ∧ F.Perm xs)
    (fun _ s => match s[st.length]? with | some (O.lst ws) => ws.length | _ => 0)
    ⟨st, xs, [], rfl, rfl, Sx.refl b, fun v h => h, by simp, by simp, by simp⟩ (by
      rintro env s ⟨s1, W, F, rfl, rfl, sx, hW, hF, hl, hP⟩
      have hlen : s1.length = st.length := sx.len
      have g0 : (s1 ++ [O.lst (W.map .int), O.lst (F.map .int)])[st.length]? = some (O.lst (W.map .int)) := by rw [← hlen]; exact get_app0 _ _ _
      have g1 : (s1 ++ [O.lst (W.map .int), O.lst (F.map .int)])[st.length + 1]? = some (O.lst (F.map .int)) := by rw [← hlen]; exact get_app1 _ _ _
      have hc : (fTrue (fBin gNe (fName 2) (fLst fNil))) ev (s1 ++ [O.lst (W.map .int), O.lst (F.map .int)]) = .ok (!W.isEmpty) (s1 ++ [O.lst (W.map .int), O.lst (F.map .int)]) :=
        ev_true ((ev_bin (ev_name rfl) (ev_lst ev_nil (by simp))).trans (gNe_empty W g0))
      cases W with
      | nil => exact .inl ⟨_, hc, s1, F, rfl, rfl, sx, hF, by simp at hl; omega, by simpa using hP⟩
      | cons w0 W0 =>
        obtain ⟨r, X, q1, q2, q3⟩ := draw_call (env := ev) (fb := fName 0) (fm := fCall1 gLen (fName 2)) (sx.bag.app [O.lst ((w0 :: W0).map .int), O.lst (F.map .int)]) (ev_name rfl) (len_ref (ev_name rfl) g0) (by simp; omega) (by simp at hl ⊢; omega)
        obtain ⟨s2, rfl, sx2⟩ := q3.split (by rw [hlen]; exact two)
        have hlen2 : s2.length = st.length := sx2.len.trans hlen
        simp only [List.length_map] at q2
        have hr : r.toNat < (w0 :: W0).length := by omega
        have hx : (w0 :: W0)[r.toNat]? = some (w0 :: W0)[r.toNat] := List.getElem?_eq_getElem hr
        have k0 : (s2 ++ [O.lst ((w0 :: W0).map .int), O.lst (F.map .int)])[st.length]? = some (O.lst ((w0 :: W0).map .int)) := by rw [← hlen2]; exact get_app0 _ _ _
        have pa := popAt_int k0 q2 (by simp at hl ⊢; omega) hx
        have es : (s2 ++ [O.lst ((w0 :: W0).map .int), O.lst (F.map .int)]).set st.length (O.lst (((w0 :: W0).eraseIdx r.toNat).map .int)) = s2 ++ [O.lst (((w0 :: W0).eraseIdx r.toNat).map .int), O.lst (F.map .int)] := by rw [← hlen2]; exact set_app0 _ _ _ _
        rw [es] at pa
        have k1 : (s2 ++ [O.lst (((w0 :: W0).eraseIdx r.toNat).map .int), O.lst (F.map .int)])[st.length + 1]? = some (O.lst (F.map .int)) := by rw [← hlen2]; exact get_app1 _ _ _
        have ap := app_int ((w0 :: W0)[r.toNat]) k1 (by simp at hl; omega)
        have es2 : (s2 ++ [O.lst (((w0 :: W0).eraseIdx r.toNat).map .int), O.lst (F.map .int)]).set (st.length + 1) (O.lst ((F ++ [(w0 :: W0)[r.toNat]]).map .int)) = s2 ++ [O.lst (((w0 :: W0).eraseIdx r.toNat).map .int), O.lst ((F ++ [(w0 :: W0)[r.toNat]]).map .int)] := by rw [← hlen2]; exact set_app1 _ _ _ _
        rw [es2] at ap
        have hbody : W_law_mixed_1 ev (s1 ++ [O.lst ((w0 :: W0).map .int), O.lst (F.map .int)]) = .next ev (s2 ++ [O.lst (((w0 :: W0).eraseIdx r.toNat).map .int), O.lst ((F ++ [(w0 :: W0)[r.toNat]]).map .int)]) := by
          unfold W_law_mixed_1
          exact ex_expr ((ev_meth1 (ev_name rfl) (seqL_ref g1) ((ev_meth1 (ev_name rfl) (seqL_ref g0) q1).trans pa)).trans ap)
        have hel : ((w0 :: W0).eraseIdx r.toNat).length = (w0 :: W0).length - 1 := List.length_eraseIdx_of_lt hr
        refine .inr ⟨_, _, _, hc, hbody, rfl, ⟨s2, (w0 :: W0).eraseIdx r.toNat, F ++ [(w0 :: W0)[r.toNat]], rfl, rfl, sx.trans sx2, fun v hv => hW v (List.mem_of_mem_eraseIdx hv), fun v hv => ?_, ?_, ?_⟩, ?_⟩
        · rcases List.mem_append.mp hv with q | q
          · exact hF v q
          · rw [List.mem_singleton.mp q]; exact hW _ (List.getElem_mem hr)
        · rw [hel]; simp at hl ⊢; omega
        · rw [List.append_assoc]
          exact ((erase_perm _ _ hr).append_left F).trans hP
        · have k2 : (s2 ++ [O.lst (((w0 :: W0).eraseIdx r.toNat).map .int), O.lst ((F ++ [(w0 :: W0)[r.toNat]]).map .int)])[st.length]? = some (O.lst (((w0 :: W0).eraseIdx r.toNat).map .int)) := by rw [← hlen2]; exact get_app0 _ _ _
          simp only [k2, g0, List.length_map, hel]
          simp)
  refine ⟨F, s1, ?_, sx, hm, hlF, hPm⟩
  rw [e]
  unfold B_law_mixed
  have p1 : fPar 2 3 (fCons (fCall1 gList (fName 1)) (fCons (fLst fNil) fNil)) [some (.ref 1), some (.ref n), none, none] st = .next ev (st ++ [O.lst (xs.map .int), O.lst []]) := by
    have h1 : (fCall1 gList (fName 1)) [some (.ref 1), some (.ref n), none, none] st = .ok (.o (O.lst (xs.map .int))) st := by
      rw [ev_call1 (ev_name rfl)]; simp only [gList, seqL_ref hg]
    rw [ex_par (ev_consO h1 (ev_consO (ev_lst ev_nil (by simp)) ev_nil))]
    simp [ev]
  rw [ex_seq p1, ex_seq w1, ex_ret (ev_name rfl)]
  exact gc_sxR b sx _ (by omega) (by rw [← sx.len]; exact get_app1 _ _ _) (show OBl _ (O.lst (F.map .int)) from bls_ints F)
end K41

set_option Elab.async false
set_option linter.all false
set_option maxRecDepth 100000
set_option maxHeartbeats 4000000
set_option autoImplicit false
namespace K41
open PySem PySem.Spec PyProof.Rows L2 Fx

/-- pairs of stations below n -/
def Bd2 (n : Nat) (M : E2) : Prop := ∀ p ∈ M, ((0 ≤ p.1 ∧ p.1 < n) ∧ 0 ≤ p.2 ∧ p.2 < n) ∧ p.1 ≠ p.2
theorem Bd2.app {n : Nat} {M M' : E2} (h : Bd2 n M) (h' : Bd2 n M') : Bd2 n (M ++ M') := fun p hp => by
  rcases List.mem_append.mp hp with q | q
  · exact h p q
  · exact h' p q
theorem obl_lines {m : Nat} (M : E2) : OBl m (.lst (M.map lineD)) := Bls.of fun d hd => by
  obtain ⟨p, _, rfl⟩ := List.mem_map.mp hd
  exact bl_line p
theorem bl0_lines (M : E2) : ∀ d ∈ M.map lineD, Bl 0 d := fun d hd => by
  obtain ⟨p, _, rfl⟩ := List.mem_map.mp hd
  exact bl_line p
/-- rows that are lines -/
theorem lift_lines {Q : Int × Int → Prop} : ∀ (out : List D), (∀ v ∈ out, ∃ p, v = lineD p ∧ Q p) → ∃ M : E2, out = M.map lineD ∧ ∀ p ∈ M, Q p
  | [], _ => ⟨[], rfl, by simp⟩
  | v :: out, h => by
    obtain ⟨M, e, hM⟩ := lift_lines out fun u hu => h u (List.mem_cons_of_mem _ hu)
    obtain ⟨p, hp, hq⟩ := h v List.mem_cons_self
    exact ⟨p :: M, by rw [hp, e]; rfl, fun z hz => by
      rcases List.mem_cons.mp hz with q | q
      · rw [q]; exact hq
      · exact hM z q⟩
def pairsE (n : Nat) : E2 := ((rngI (n * n)).filter fun k => !decide (k / (n : Int) = k % (n : Int))).map fun k => (k / (n : Int), k % (n : Int))
theorem F_pairs_eq {n : Nat} (h1 : 1 ≤ n) (h2 : n ≤ 10) (st : Store) : F_law_pairs [.int (n : Int)] st = .ok (.o (.lst ((pairsE n).map lineD))) st := by
  have e : F_law_pairs [.int (n : Int)] st = gc st (retOf (B_law_pairs [some (.int (n : Int)), none] st)) := rfl
  rw [e]
  unfold B_law_pairs
  have hnn : n * n ≤ 100 := Nat.mul_le_mul h2 h2
  have hsrc : (fRng1 (fBin gMul (fName 0) (fName 0))) [some (.int (n : Int)), none] st = .ok ⟨(rngI (n * n)).map .int, Sq.any⟩ st := by
    have hm : (fBin gMul (fName 0) (fName 0)) [some (.int (n : Int)), none] st = .ok (.v (.int ((n : Int) * (n : Int)))) st := (ev_bin (ev_name rfl) (ev_name rfl)).trans (g_mul _ _ (.inl (by omega)))
    have en : (n : Int) * (n : Int) = ((n * n : Nat) : Int) := by simp
    rw [en] at hm
    rw [ev_rng1 hm (by omega), rngD_eq]
  have hk : ∀ k : Int, (fBin gDiv (fCall1 gInt (fName 1)) (fName 0)) [some (.int (n : Int)), some (.int k)] st = .ok (.v (.int (k / (n : Int)))) st := fun k => (ev_bin (ev_int (ev_name rfl)) (ev_name rfl)).trans (g_div _ _ (by omega))
  have hk2 : ∀ k : Int, (fBin gMod (fCall1 gInt (fName 1)) (fName 0)) [some (.int (n : Int)), some (.int k)] st = .ok (.v (.int (k % (n : Int)))) st := fun k => (ev_bin (ev_int (ev_name rfl)) (ev_name rfl)).trans (g_mod _ _ (by omega))
  have hc := compL_pure (ok := Sq.any) (st := st) trivial (tg := tgN 1) (tt := fTrue (fBin gNe (fBin gDiv (fCall1 gInt (fName 1)) (fName 0)) (fBin gMod (fCall1 gInt (fName 1)) (fName 0)))) (elt := fTup (fCons (fBin gDiv (fCall1 gInt (fName 1)) (fName 0)) (fCons (fBin gMod (fCall1 gInt (fName 1)) (fName 0)) fNil))) (e0 := wipeE [some (.int (n : Int)), none] [1])
    (fun d => match d with | .int k => !decide (k / (n : Int) = k % (n : Int)) | _ => false) (fun d => match d with | .int k => lineD (k / (n : Int), k % (n : Int)) | _ => .non) ((rngI (n * n)).map .int) [] (fun d hd => by
      obtain ⟨k, _, rfl⟩ := List.mem_map.mp hd
      refine ⟨[some (.int (n : Int)), some (.int k)], rfl, ?_, fun _ => ?_⟩
      · exact ev_true ((ev_bin (hk k) (hk2 k)).trans (gNe_int _ _))
      · exact ev_tup (ev_consV (hk k) (ev_consV (hk2 k) ev_nil)) (by simp)) (by simp [rngI]; omega)
  have e3 : ([] ++ (((rngI (n * n)).map D.int).filter fun d => match d with | .int k => !decide (k / (n : Int) = k % (n : Int)) | _ => false).map fun d => match d with | .int k => lineD (k / (n : Int), k % (n : Int)) | _ => .non) = (pairsE n).map lineD := by
    unfold pairsE
    simp only [List.nil_append, List.filter_map, List.map_map]
    rfl
  rw [ex_ret ((ev_comp hsrc).trans hc), e3]
  exact gc_same
theorem pairsE_bd {n : Nat} (h1 : 1 ≤ n) : Bd2 n (pairsE n) := fun p hp => by
  unfold pairsE at hp
  obtain ⟨k, hk, rfl⟩ := List.mem_map.mp hp
  have := mem_rngI.mp (List.mem_filter.mp hk).1
  have h0 : (0 : Int) < n := by omega
  have hlt : k / (n : Int) < n := Int.ediv_lt_of_lt_mul h0 (by have := this.2; simpa using this)
  have hne := (List.mem_filter.mp hk).2
  exact ⟨⟨⟨Int.ediv_nonneg this.1 (by omega), hlt⟩, Int.emod_nonneg _ (by omega), Int.emod_lt_of_pos _ h0⟩, by simpa using hne⟩
theorem pairs_facts : ∀ n : Fin 11, ((pairsE n.val).filter fun p => decide (p.1 < p.2)).length < 60 ∧ (n.val < 6 → (pairsE n.val).length < 60) ∧ (6 ≤ n.val → 1 ≤ (pairsE n.val).length) ∧ (pairsE n.val).length < 100 := by decide +kernel

/-! ### cuts and pairs of an order -/
def cutI (xs : List Int) (lo hi : Option Int) : List Int := (xs.drop (HT.sIx xs.length 0 lo)).take (HT.sIx xs.length xs.length hi - HT.sIx xs.length 0 lo)
theorem cut_map (xs : List Int) (lo hi : Option Int) : cutD (xs.map .int) lo hi = (cutI xs lo hi).map .int := by
  unfold Fx.cutD cutI
  rw [List.map_take, List.map_drop, List.length_map]
theorem cut_mem {xs : List Int} {lo hi : Option Int} {v : Int} (h : v ∈ cutI xs lo hi) : v ∈ xs := List.mem_of_mem_drop (List.mem_of_mem_take h)
theorem cut_len (xs : List Int) (lo hi : Option Int) : (cutI xs lo hi).length ≤ xs.length := by
  unfold cutI
  rw [List.length_take, List.length_drop]; omega
theorem ev_sl {f : FE} {fl fh : FO} {env : Fx.Env} {st : Store} {n : Nat} {xs : List Int} {lo hi : Option Int} (h : f env st = .ok (.v (.ref n)) st) (hg : st[n]? = some (.lst (xs.map .int))) (h1 : fl env st = .ok lo st) (h2 : fh env st = .ok hi st) :
    fSl f fl fh env st = .ok (.o (.lst ((cutI xs lo hi).map .int))) st := by
  unfold fSl
  rw [h]; simp only [Out.bind, h1, h2]
  unfold slc
  simp only [seqL_ref hg, cut_map]
theorem ev_part {f : FE} {env : Fx.Env} {st : Store} {i : Int} (h : f env st = .ok (.v (.int i)) st) : fPart f env st = .ok (some i) st := by
  unfold fPart; rw [h]; rfl
theorem add_lists {st : Store} {xs ys : List D} (h : xs.length + ys.length ≤ 1000000) : gAdd (.o (.lst xs)) (.o (.lst ys)) st = .ok (.o (.lst (xs ++ ys))) st := by
  show (if xs.length + ys.length ≤ 1000000 then _ else _) = _
  rw [if_pos h]
theorem add_ref {st : Store} {xs ys : List D} {n : Nat} (hg : st[n]? = some (.lst ys)) (h : xs.length + ys.length ≤ 1000000) : gAdd (.o (.lst xs)) (.v (.ref n)) st = .ok (.o (.lst (xs ++ ys))) st := by
  unfold gAdd
  simp only [seqM_ref hg]
  show (if xs.length + ys.length ≤ 1000000 then _ else _) = _
  rw [if_pos h]
theorem zip_lines (xs ys : List Int) : List.zipWith pairD (xs.map .int) (ys.map .int) = (xs.zip ys).map lineD := by
  rw [List.zip, List.map_zipWith, List.zipWith_map]
  rfl
theorem zip_bd {n : Nat} {xs ys : List Int} (hx : ∀ v ∈ xs, 0 ≤ v ∧ v < n) (hy : ∀ v ∈ ys, 0 ≤ v ∧ v < n) : ∀ p ∈ xs.zip ys, (0 ≤ p.1 ∧ p.1 < n) ∧ 0 ≤ p.2 ∧ p.2 < n := fun p hp => ⟨hx _ (List.of_mem_zip hp).1, hy _ (List.of_mem_zip hp).2⟩
theorem zip_ne : ∀ (l : List Int) (a : Int), (a :: l).Nodup → ∀ p ∈ (a :: l).zip l, p.1 ≠ p.2
  | [], a, _, p, hp => by simp at hp
  | b :: l, a, h, p, hp => by
    rw [List.zip_cons_cons] at hp
    rcases List.mem_cons.mp hp with e | e
    · rw [e]
      intro z
      exact (List.nodup_cons.mp h).1 (by simp at z; simp [z])
    · exact zip_ne l b (List.nodup_cons.mp h).2 p e
theorem zip_ne2 : ∀ (l : List Int) (a : Int), (a :: l).Nodup → ∀ p ∈ l.zip (a :: l), p.1 ≠ p.2
  | [], a, _, p, hp => by simp at hp
  | b :: l, a, h, p, hp => by
    rw [List.zip_cons_cons] at hp
    rcases List.mem_cons.mp hp with e | e
    · rw [e]
      intro z
      exact (List.nodup_cons.mp h).1 (by simp at z; simp [z])
    · exact zip_ne2 l b (List.nodup_cons.mp h).2 p e
theorem cut_one (xs : List Int) : cutI xs (some 1) none = xs.drop 1 := by
  unfold cutI
  rw [show HT.sIx xs.length 0 (some 1) = min 1 xs.length from HT.sIx_nat xs.length 0 1, show HT.sIx xs.length xs.length none = xs.length from rfl]
  cases xs with
  | nil => rfl
  | cons a l =>
    have : min 1 (a :: l).length = 1 := by simp only [List.length_cons]; omega
    rw [this]
    simp
theorem next_ne {xs : List Int} (h : xs.Nodup) : (∀ p ∈ xs.zip (cutI xs (some 1) none), p.1 ≠ p.2) ∧ ∀ p ∈ (cutI xs (some 1) none).zip xs, p.1 ≠ p.2 := by
  rw [cut_one]
  cases xs with
  | nil => simp
  | cons a l => exact ⟨zip_ne l a h, zip_ne2 l a h⟩
theorem ev_zip {g : FA} {env : Fx.Env} {st st1 : Store} {d1 d2 : D} {p q : List D × (Store → Prop)} (h : g env st = .ok [d1, d2] st1) (h1 : side st1 d1 = some p) (h2 : side st1 d2 = some q) : fZip g env st = .ok ⟨List.zipWith pairD p.1 q.1, fun s => p.2 s ∧ q.2 s⟩ st1 := by
  unfold fZip; rw [h]; simp only [Out.bind, h1, h2]
theorem side_ref {st : Store} {n : Nat} {xs : List D} (h : st[n]? = some (.lst xs)) : side st (.ref n) = some (xs, Sq.at n xs) := by
  unfold side; simp only [h]
theorem F_ring_eq {st : Store} {m n : Nat} {xs : List Int} (hg : st[m]? = some (.lst (xs.map .int))) (hb : ∀ v ∈ xs, 0 ≤ v ∧ v < n) (hl : xs.length < 1000) :
    ∃ M : E2, F_law_ring [.ref m] st = .ok (.o (.lst (M.map lineD))) st ∧ Bd2 n M ∧ M.length ≤ xs.length := by
  have e : F_law_ring [.ref m] st = gc st (retOf (B_law_ring [some (.ref m), none] st)) := rfl
  let rot : List Int := cutI xs (some 1) none ++ cutI xs none (some 1)
  have hrot : ∀ v ∈ rot, 0 ≤ v ∧ v < n := fun v hv => by
    rcases List.mem_append.mp hv with q | q
    · exact hb v (cut_mem q)
    · exact hb v (cut_mem q)
  have c1 := cut_len xs (some 1) none
  have c2 := cut_len xs none (some 1)
  have h1 : (fBin gAdd (fSl (fName 0) (fPart (fC (.int 1))) fNo) (fSl (fName 0) fNo (fPart (fC (.int 1))))) [some (.ref m), none] st = .ok (.o (.lst (rot.map .int))) st := by
    rw [ev_bin (ev_sl (ev_name rfl) hg (ev_part ev_c) rfl) (ev_sl (ev_name rfl) hg rfl (ev_part ev_c)), add_lists (by simp; omega)]
    simp [rot]
  have hm : m < st.length := (List.getElem?_eq_some_iff.mp hg).1
  have g1 : (st ++ [O.lst (rot.map .int)])[m]? = some (.lst (xs.map .int)) := by rw [List.getElem?_append_left hm]; exact hg
  have g2 : (st ++ [O.lst (rot.map .int)])[st.length]? = some (.lst (rot.map .int)) := by simp
  have hz : (fZip (fCons (fName 0) (fCons (fBin gAdd (fSl (fName 0) (fPart (fC (.int 1))) fNo) (fSl (fName 0) fNo (fPart (fC (.int 1))))) fNil))) [some (.ref m), none] st = .ok ⟨List.zipWith pairD (xs.map .int) (rot.map .int), fun s => Sq.at m (xs.map .int) s ∧ Sq.at st.length (rot.map .int) s⟩ (st ++ [O.lst (rot.map .int)]) :=
    ev_zip (ev_consV (ev_name rfl) (ev_consO h1 ev_nil)) (side_ref g1) (side_ref g2)
  let M : E2 := (xs.zip rot).filter fun p => !decide (p.1 = p.2)
  have hc := compL_pure (ok := fun s => Sq.at m (xs.map .int) s ∧ Sq.at st.length (rot.map .int) s) (st := st ++ [O.lst (rot.map .int)]) ⟨g1, g2⟩ (tg := tgN 1) (tt := fTrue (fBin gNe (fBin gIx (fName 1) (fC (.int 0))) (fBin gIx (fName 1) (fC (.int 1))))) (elt := fName 1) (e0 := wipeE [some (.ref m), none] [1])
    (fun d => match d with | .tup [.int a, .int b] => !decide (a = b) | _ => false) id ((xs.zip rot).map lineD) [] (fun d hd => by
      obtain ⟨p, _, rfl⟩ := List.mem_map.mp hd
      refine ⟨[some (.ref m), some (lineD p)], rfl, ?_, fun _ => rfl⟩
      exact ev_true ((ev_bin ((ev_bin (ev_name rfl) ev_c).trans (ix_tup (i := 0) rfl)) ((ev_bin (ev_name rfl) ev_c).trans (ix_tup (i := 1) rfl))).trans (gNe_int _ _))) (by simp; omega)
  have e3 : ([] ++ (((xs.zip rot).map lineD).filter fun d => match d with | .tup [.int a, .int b] => !decide (a = b) | _ => false).map id) = M.map lineD := by
    simp only [List.nil_append, List.filter_map, List.map_id]
    rfl
  refine ⟨M, ?_, fun p hp => ⟨zip_bd hb hrot p (List.mem_filter.mp hp).1, by simpa using (List.mem_filter.mp hp).2⟩, ?_⟩
  · rw [e]
    unfold B_law_ring
    have hcomp := (ev_comp (tg := tgN 1) (tt := fTrue (fBin gNe (fBin gIx (fName 1) (fC (.int 0))) (fBin gIx (fName 1) (fC (.int 1))))) (el := fName 1) (own := [1]) hz)
    simp only at hcomp
    rw [zip_lines, hc, e3] at hcomp
    rw [ex_ret hcomp]
    exact gc_newO (obl_lines M)
  · refine Nat.le_trans (List.length_filter_le _ _) ?_
    rw [List.length_zip]; omega
/-- list(zip(a, b)) of two orders in the store -/
theorem ev_listZip {g : FA} {env : Fx.Env} {st st1 : Store} {a b : Nat} {xs ys : List Int} (h : g env st = .ok [.ref a, .ref b] st1) (h1 : st1[a]? = some (.lst (xs.map .int))) (h2 : st1[b]? = some (.lst (ys.map .int))) (hl : xs.length < 1000000) :
    fListZip g env st = .ok (.o (.lst ((xs.zip ys).map lineD))) st1 := by
  unfold fListZip
  rw [ev_zip h (side_ref h1) (side_ref h2)]
  simp only [Out.bind]
  rw [if_pos (by simp; omega), zip_lines]
end K41

set_option Elab.async false
set_option linter.all false
set_option maxRecDepth 100000
set_option maxHeartbeats 4000000
set_option autoImplicit false
namespace K41
open PySem PySem.Spec PyProof.Rows L2 Fx

/-- st as it may have been drawn of, then ex -/
def Nx (st ex s : Store) : Prop := ∃ s1, s = s1 ++ ex ∧ Sx st s1
section
variable {st ex s : Store}
theorem Nx.bag (h : Nx st ex s) : Bag s := by
  obtain ⟨s1, rfl, sx⟩ := h
  exact sx.bag.app ex
theorem Nx.get (h : Nx st ex s) (i : Nat) : s[st.length + i]? = ex[i]? := by
  obtain ⟨s1, rfl, sx⟩ := h
  rw [← sx.len, List.getElem?_append_right (by omega)]
  congr 1; omega
theorem Nx.len (h : Nx st ex s) : s.length = st.length + ex.length := by
  obtain ⟨s1, rfl, sx⟩ := h
  rw [List.length_append, sx.len]
theorem Nx.of {s' : Store} (two : 2 ≤ st.length) (h : Nx st ex s) (h' : Sx s s') : Nx st ex s' := by
  obtain ⟨s1, rfl, sx⟩ := h
  obtain ⟨s2, rfl, sx2⟩ := h'.split (by rw [sx.len]; exact two)
  exact ⟨s2, rfl, sx.trans sx2⟩
theorem Nx.push (h : Nx st ex s) (o : O) : Nx st (ex ++ [o]) (s ++ [o]) := by
  obtain ⟨s1, rfl, sx⟩ := h
  exact ⟨s1, by simp, sx⟩
theorem draw_nx {fb fm : FE} {env : Fx.Env} (two : 2 ≤ st.length) (b : Nx st ex s) {many : Int} (h1 : fb env s = .ok (.v (.ref 1)) s) (h2 : fm env s = .ok (.v (.int many)) s) (m1 : 1 ≤ many) (m2 : many < 1073741824) :
    ∃ r s', fCall F_law_draw (fCons fb (fCons fm fNil)) env s = .ok (.v (.int r)) s' ∧ (0 ≤ r ∧ r < many) ∧ Nx st ex s' := by
  obtain ⟨r, s', q1, q2, q3⟩ := draw_call b.bag h1 h2 m1 m2
  exact ⟨r, s', q1, q2, b.of two q3⟩
end
theorem compL_cnt {ok : Store → Prop} {tg : FG} {tt : FB} {elt : FE} {e0 : Fx.Env} (I : Store → Prop) (Pd : D → Prop) (may : D → Bool) (hok : ∀ st, I st → ok st) : ∀ (ds acc : List D) (st : Store),
    (∀ d ∈ ds, ∀ st, I st → ∃ e1 b st1, tg d e0 = some e1 ∧ tt e1 st = .ok b st1 ∧ I st1 ∧ (b = true → may d = true ∧ ∃ v st2, elt e1 st1 = .ok (.v v) st2 ∧ I st2 ∧ Pd v)) → acc.length + ds.length ≤ 1000000 → I st → (∀ v ∈ acc, Pd v) →
    ∃ out st', compL ok tg tt elt e0 ds acc st = .ok (.o (.lst out)) st' ∧ I st' ∧ (∀ v ∈ out, Pd v) ∧ out.length ≤ acc.length + (ds.filter may).length
  | [], acc, st, _, _, hi, ha => by
    unfold compL
    rw [if_pos (hok st hi)]
    exact ⟨acc, st, rfl, hi, ha, by simp⟩
  | d :: ds, acc, st, h, hl, hi, ha => by
    obtain ⟨e1, b, st1, h1, h2, h3, h4⟩ := h d List.mem_cons_self st hi
    have ht := fun d hd => h d (List.mem_cons_of_mem _ hd)
    simp only [List.length_cons] at hl
    unfold compL
    rw [if_pos (hok st hi), h1]
    simp only [h2, Out.nox_ok, Out.bind]
    cases b with
    | true =>
      obtain ⟨km, v, st2, k1, k2, k3⟩ := h4 rfl
      simp only [k1, Out.nox_ok, Out.bind, if_true]
      rw [if_pos (by omega)]
      simp only [alloc_v]
      obtain ⟨out, st', q1, q2, q3, q4⟩ := compL_cnt I Pd may hok ds (acc ++ [v]) st2 ht (by simp; omega) k2 (fun z hz => by
        rcases List.mem_append.mp hz with z' | z'
        · exact ha z z'
        · rw [List.mem_singleton.mp z']; exact k3)
      refine ⟨out, st', q1, q2, q3, ?_⟩
      rw [List.filter_cons_of_pos km]
      simp at q4 ⊢; omega
    | false =>
      simp only [Bool.false_eq_true, if_false]
      obtain ⟨out, st', q1, q2, q3, q4⟩ := compL_cnt I Pd may hok ds acc st1 ht (by omega) h3 ha
      refine ⟨out, st', q1, q2, q3, ?_⟩
      by_cases hm : may d = true
      · rw [List.filter_cons_of_pos hm]; simp; omega
      · rw [List.filter_cons_of_neg hm]; exact q4
theorem ex_asg {g : FG} {f : FE} {env env' : Fx.Env} {st st1 : Store} {d : D} (h : f env st = .ok (.v d) st1) (h2 : g d env = some env') : fAsg g f env st = .next env' st1 := by
  unfold fAsg; rw [h]; simp only [Out.thenS, alloc_v, h2]
theorem gNe_lines {st : Store} {m : Nat} (E : E2) (h : st[m]? = some (.lst (E.map lineD))) : gNe (.v (.ref m)) (.o (.lst [])) st = .ok (.v (.bl (!E.isEmpty))) st := by
  have e : R.toP st 60 (.v (.ref m)) = some (.list (E.map fun p => PyData.tuple [.int p.1, .int p.2])) := by
    show D.toP st 60 (.ref m) = _
    rw [D.toP, h]
    simp only
    rw [mapM_lines]; rfl
  have e2 : R.toP st 60 (.o (.lst [])) = some (.list []) := rfl
  simp only [gNe, e, e2]
  cases E with
  | nil => rfl
  | cons a W => rfl
theorem gLt_int {st : Store} (a b : Int) : gLt (.v (.int a)) (.v (.int b)) st = .ok (.v (.bl (decide (a < b)))) st := rfl
abbrev evL (n : Nat) (L : Nat) (w : Int) (more : Option D) : Fx.Env := [some (.ref 1), some (.int (n : Int)), more, some (.ref L), some (.ref (L + 1)), some (.int w), none, none, none, none, none]
/-- the drawn lines, one way or another -/
structure Br (n : Nat) (st : Store) (o : OutS) : Prop where
  ex : ∃ env' s' q M s1 ex, o = .next env' s' ∧ env'[6]? = some (some (.ref q)) ∧ s' = s1 ++ ex ∧ Sx st s1 ∧ s'[q]? = some (.lst (M.map lineD)) ∧ Bd2 n M ∧ M.length < 64
theorem br_set {n : Nat} {st ex s s' : Store} {X : FE} {env : Fx.Env} {M : E2} (hX : X env s = .ok (.o (.lst (M.map lineD))) s') (h : Nx st ex s') (he : 6 < env.length) (hb : Bd2 n M) (hl : M.length < 64) : Br n st (fSet 6 X env s) := by
  obtain ⟨s1, rfl, sx⟩ := h
  exact ⟨_, _, (s1 ++ ex).length, M, s1, ex ++ [.lst (M.map lineD)], ex_setO hX, by rw [List.getElem?_set_self he], by simp, sx, by simp, hb, hl⟩
section
variable {n : Nat} {st s ex : Store} {w : Int} {order : List Int} {more : E2}
/-- what the ways have in common -/
structure Wy (n : Nat) (st s : Store) (order : List Int) (more : E2) : Prop where
  n1 : 1 ≤ n
  n9 : n ≤ 10
  two : 2 ≤ st.length
  nx : Nx st [.lst ((pairsE n).map lineD), .lst (order.map .int), .lst (more.map lineD)] s
  ob : ∀ v ∈ order, 0 ≤ v ∧ v < n
  ol : order.length ≤ n
  od : order.Nodup
  mb : Bd2 n more
  ml : more.length ≤ 2
variable (H : Wy n st s order more)
include H
theorem way0 : Br n st (fSet 6 (fComp (fIt (fName 3)) (tgN 10) (fAnd (fTrue (fBin gLt (fBin gIx (fName 10) (fC (.int 0))) (fBin gIx (fName 10) (fC (.int 1))))) (fTrue (fBin gEq (fCall F_law_draw (fCons (fName 0) (fCons (fC (.int 2)) fNil))) (fC (.int 0))))) (fName 10) [10]) (evL n st.length w (some (.ref (st.length + 2)))) s) := by
  have gP := H.nx.get 0
  simp only [Nat.add_zero, List.getElem?_cons_zero] at gP
  have hit : (fIt (fName 3)) (evL n st.length w (some (.ref (st.length + 2)))) s = .ok ⟨(pairsE n).map lineD, Sq.at st.length ((pairsE n).map lineD)⟩ s := (ev_it (ev_name rfl)).trans (sq_ref gP)
  have fa := pairs_facts ⟨n, by have := H.n9; omega⟩
  simp only at fa
  obtain ⟨out, s', q1, q2, q3, q4⟩ := compL_cnt (ok := Sq.at st.length ((pairsE n).map lineD)) (tg := tgN 10) (tt := fAnd (fTrue (fBin gLt (fBin gIx (fName 10) (fC (.int 0))) (fBin gIx (fName 10) (fC (.int 1))))) (fTrue (fBin gEq (fCall F_law_draw (fCons (fName 0) (fCons (fC (.int 2)) fNil))) (fC (.int 0))))) (elt := fName 10) (e0 := wipeE (evL n st.length w (some (.ref (st.length + 2)))) [10])
    (Nx st [.lst ((pairsE n).map lineD), .lst (order.map .int), .lst (more.map lineD)]) (fun v => ∃ p, v = lineD p ∧ p ∈ pairsE n) (fun d => match d with | .tup [.int a, .int b] => decide (a < b) | _ => false) (fun s h => by
      have := h.get 0
      show s[st.length]? = _
      simpa using this) ((pairsE n).map lineD) [] s (fun d hd s h => by
      obtain ⟨p, hp, rfl⟩ := List.mem_map.mp hd
      have a1 : (fTrue (fBin gLt (fBin gIx (fName 10) (fC (.int 0))) (fBin gIx (fName 10) (fC (.int 1))))) ((evL n st.length w (some (.ref (st.length + 2)))).set 10 (some (lineD p))) s = .ok (decide (p.1 < p.2)) s :=
        ev_true ((ev_bin ((ev_bin (ev_name rfl) ev_c).trans (ix_tup (i := 0) rfl)) ((ev_bin (ev_name rfl) ev_c).trans (ix_tup (i := 1) rfl))).trans (gLt_int _ _))
      by_cases hlt : p.1 < p.2
      · obtain ⟨r, s2, r1, r2, r3⟩ := draw_nx (env := (evL n st.length w (some (.ref (st.length + 2)))).set 10 (some (lineD p))) (fb := fName 0) (fm := fC (.int 2)) H.two h (ev_name rfl) ev_c (by decide) (by decide)
        refine ⟨_, decide (r = 0), s2, rfl, ?_, r3, fun _ => ⟨decide_eq_true hlt, lineD p, s2, ev_name rfl, r3, p, rfl, hp⟩⟩
        have a2 := ev_true ((ev_bin r1 ev_c).trans (gEq_int r 0))
        have : (fAnd (fTrue (fBin gLt (fBin gIx (fName 10) (fC (.int 0))) (fBin gIx (fName 10) (fC (.int 1))))) (fTrue (fBin gEq (fCall F_law_draw (fCons (fName 0) (fCons (fC (.int 2)) fNil))) (fC (.int 0))))) ((evL n st.length w (some (.ref (st.length + 2)))).set 10 (some (lineD p))) s = .ok (decide (r = 0)) s2 := by
          rw [ev_and a1, if_pos (decide_eq_true hlt)]; exact a2
        exact this
      · refine ⟨_, false, s, rfl, ?_, h, fun z => by cases z⟩
        have : (fAnd (fTrue (fBin gLt (fBin gIx (fName 10) (fC (.int 0))) (fBin gIx (fName 10) (fC (.int 1))))) (fTrue (fBin gEq (fCall F_law_draw (fCons (fName 0) (fCons (fC (.int 2)) fNil))) (fC (.int 0))))) ((evL n st.length w (some (.ref (st.length + 2)))).set 10 (some (lineD p))) s = .ok false s := by
          rw [ev_and a1, decide_eq_false hlt]; rfl
        exact this) (by simp; omega) H.nx (by simp)
  obtain ⟨M, rfl, hM⟩ := lift_lines out q3
  refine br_set ((ev_comp hit).trans q1) q2 (by simp) (fun p hp => pairsE_bd H.n1 p (hM p hp)) ?_
  rw [List.filter_map] at q4
  simp only [List.length_map, List.length_nil, Nat.zero_add] at q4
  exact Nat.lt_of_le_of_lt q4 (Nat.lt_trans fa.1 (by decide))
theorem more_at : s[st.length + 2]? = some (.lst (more.map lineD)) := by have := H.nx.get 2; simpa using this
theorem order_at : s[st.length + 1]? = some (.lst (order.map .int)) := by have := H.nx.get 1; simpa using this
omit H in
theorem pick_nx {fb fi : FE} {env : Fx.Env} {s ex : Store} (two : 2 ≤ st.length) (b : Nx st ex s) {n : Nat} {xs : List D} (g1 : fb env s = .ok (.v (.ref 1)) s) (g2 : fi env s = .ok (.v (.ref n)) s) (hn : 2 ≤ n) (hg : s[n]? = some (.lst xs)) (hc : ∀ d ∈ xs, Bl 0 d) (h1 : 1 ≤ xs.length) (h2 : xs.length < 1073741824) :
    ∃ d s', fCall F_law_pick (fCons fb (fCons fi fNil)) env s = .ok (.v d) s' ∧ d ∈ xs ∧ Nx st ex s' := by
  obtain ⟨d, s', q1, q2, q3⟩ := pick_ref b.bag g1 g2 hn hg hc h1 h2
  exact ⟨d, s', q1, q2, b.of two q3⟩
omit H in
theorem pickL_nx {fb fi : FE} {env : Fx.Env} {s ex : Store} (two : 2 ≤ st.length) (b : Nx st ex s) {xs : List D} (g1 : fb env s = .ok (.v (.ref 1)) s) (g2 : fi env s = .ok (.o (.lst xs)) s) (hc : ∀ d ∈ xs, Bl 0 d) (h1 : 1 ≤ xs.length) (h2 : xs.length < 1073741824) :
    ∃ d s', fCall F_law_pick (fCons fb (fCons fi fNil)) env s = .ok (.v d) s' ∧ d ∈ xs ∧ Nx st ex s' := by
  obtain ⟨d, s', q1, q2, q3⟩ := pick_lit b.bag g1 g2 hc h1 h2
  exact ⟨d, s', q1, q2, b.of two q3⟩
theorem way1 : Br n st (fSet 6 (fBin gAdd (fBin gAdd (fListZip (fCons (fName 4) (fCons (fSl (fName 4) (fPart (fC (.int 1))) fNo) fNil))) (fListZip (fCons (fSl (fName 4) (fPart (fC (.int 1))) fNo) (fCons (fName 4) fNil)))) (fName 2)) (evL n st.length w (some (.ref (st.length + 2)))) s) := by
  have hn9 := H.n9
  have hol := H.ol
  have hml := H.ml
  have c1 := cut_len order (some 1) none
  have o1 := order_at H
  have hL : st.length + 1 < s.length := (List.getElem?_eq_some_iff.mp o1).1
  generalize hs1 : s ++ [O.lst ((cutI order (some 1) none).map .int)] = s1
  have o2 : s1[st.length + 1]? = some (.lst (order.map .int)) := by rw [← hs1, List.getElem?_append_left hL]; exact o1
  have k2 : s1[s.length]? = some (.lst ((cutI order (some 1) none).map .int)) := by rw [← hs1]; simp
  have z1 : (fListZip (fCons (fName 4) (fCons (fSl (fName 4) (fPart (fC (.int 1))) fNo) fNil))) (evL n st.length w (some (.ref (st.length + 2)))) s = .ok (.o (.lst ((order.zip (cutI order (some 1) none)).map lineD))) s1 :=
    ev_listZip (by rw [← hs1]; exact ev_consV (ev_name rfl) (ev_consO (ev_sl (ev_name rfl) o1 (ev_part ev_c) rfl) ev_nil)) o2 k2 (by omega)
  have hL1 : st.length + 1 < s1.length := (List.getElem?_eq_some_iff.mp o2).1
  generalize hs2 : s1 ++ [O.lst ((cutI order (some 1) none).map .int)] = s2
  have o3 : s2[st.length + 1]? = some (.lst (order.map .int)) := by rw [← hs2, List.getElem?_append_left hL1]; exact o2
  have k3 : s2[s1.length]? = some (.lst ((cutI order (some 1) none).map .int)) := by rw [← hs2]; simp
  have z2 : (fListZip (fCons (fSl (fName 4) (fPart (fC (.int 1))) fNo) (fCons (fName 4) fNil))) (evL n st.length w (some (.ref (st.length + 2)))) s1 = .ok (.o (.lst (((cutI order (some 1) none).zip order).map lineD))) s2 :=
    ev_listZip (by rw [← hs2]; exact ev_consO (ev_sl (ev_name rfl) o2 (ev_part ev_c) rfl) (ev_consV (ev_name rfl) ev_nil)) k3 o3 (by omega)
  have nx2 : Nx st ([.lst ((pairsE n).map lineD), .lst (order.map .int), .lst (more.map lineD)] ++ [.lst ((cutI order (some 1) none).map .int)] ++ [.lst ((cutI order (some 1) none).map .int)]) s2 := by
    rw [← hs2, ← hs1]; exact (H.nx.push _).push _
  have m2 : s2[st.length + 2]? = some (.lst (more.map lineD)) := by have := nx2.get 2; simpa using this
  have la : (order.zip (cutI order (some 1) none)).length ≤ order.length := by rw [List.length_zip]; omega
  have lb : ((cutI order (some 1) none).zip order).length ≤ order.length := by rw [List.length_zip]; omega
  have hX : (fBin gAdd (fBin gAdd (fListZip (fCons (fName 4) (fCons (fSl (fName 4) (fPart (fC (.int 1))) fNo) fNil))) (fListZip (fCons (fSl (fName 4) (fPart (fC (.int 1))) fNo) (fCons (fName 4) fNil)))) (fName 2)) (evL n st.length w (some (.ref (st.length + 2)))) s
      = .ok (.o (.lst ((order.zip (cutI order (some 1) none) ++ (cutI order (some 1) none).zip order ++ more).map lineD))) s2 := by
    have z3 := (ev_bin (h := gAdd) z1 z2).trans (add_lists (by simp only [List.length_map]; omega))
    refine ((ev_bin z3 (ev_name rfl)).trans (add_ref m2 (by simp only [List.length_map, List.length_append]; omega))).trans ?_
    simp only [List.map_append]
  have cb : ∀ v ∈ cutI order (some 1) none, 0 ≤ v ∧ v < n := fun v hv => H.ob v (cut_mem hv)
  exact br_set hX nx2 (by simp) ((Bd2.app (fun p hp => ⟨zip_bd H.ob cb p hp, (next_ne H.od).1 p hp⟩) (fun p hp => ⟨zip_bd cb H.ob p hp, (next_ne H.od).2 p hp⟩)).app H.mb) (by simp only [List.length_append]; omega)
theorem way2 : Br n st (fSet 6 (fBin gAdd (fCall F_law_ring (fCons (fName 4) fNil)) (fName 2)) (evL n st.length w (some (.ref (st.length + 2)))) s) := by
  have hn9 := H.n9
  have hol := H.ol
  have hml := H.ml
  obtain ⟨M, q1, q2, q3⟩ := F_ring_eq (order_at H) H.ob (by omega)
  have hX : (fBin gAdd (fCall F_law_ring (fCons (fName 4) fNil)) (fName 2)) (evL n st.length w (some (.ref (st.length + 2)))) s = .ok (.o (.lst ((M ++ more).map lineD))) s := by
    refine ((ev_bin (ev_callS (ev_consV (ev_name rfl) ev_nil) q1) (ev_name rfl)).trans (add_ref (more_at H) (by simp only [List.length_map]; omega))).trans ?_
    simp only [List.map_append]
  exact br_set hX H.nx (by simp) (q2.app H.mb) (by simp only [List.length_append]; omega)
omit H in
theorem ring_cut {env : Fx.Env} {s : Store} {m n : Nat} {xs : List Int} {fl fh : FO} {lo hi : Option Int} {f : FE} (hf : f env s = .ok (.v (.ref m)) s) (hg : s[m]? = some (.lst (xs.map .int))) (hb : ∀ v ∈ xs, 0 ≤ v ∧ v < n) (hl : xs.length < 1000) (h1 : fl env s = .ok lo s) (h2 : fh env s = .ok hi s) :
    ∃ M : E2, fCall F_law_ring (fCons (fSl f fl fh) fNil) env s = .ok (.o (.lst (M.map lineD))) s ∧ Bd2 n M ∧ M.length ≤ xs.length := by
  have c := cut_len xs lo hi
  have hg2 : (s ++ [O.lst ((cutI xs lo hi).map .int)])[s.length]? = some (.lst ((cutI xs lo hi).map .int)) := by simp
  obtain ⟨M, q1, q2, q3⟩ := F_ring_eq (n := n) hg2 (fun v hv => hb v (cut_mem hv)) (by omega)
  refine ⟨M, ?_, q2, by omega⟩
  rw [ev_call (ev_consO (ev_sl hf hg h1 h2) ev_nil) q1]
  exact gc_newO (obl_lines M)
theorem way3 : Br n st (fSeq (fSet 7 (fBin gAdd (fC (.int 1)) (fCall F_law_draw (fCons (fName 0) (fCons (fName 1) fNil))))) (fSet 6 (fBin gAdd (fBin gAdd (fCall F_law_ring (fCons (fSl (fName 4) fNo (fPart (fName 7))) fNil)) (fCall F_law_ring (fCons (fSl (fName 4) (fPart (fBin gSub (fName 7) (fC (.int 1)))) fNo) fNil))) (fName 2))) (evL n st.length w (some (.ref (st.length + 2)))) s) := by
  have hn1 := H.n1
  have hn9 := H.n9
  have hol := H.ol
  have hml := H.ml
  obtain ⟨r, s2, q1, q2, q3⟩ := draw_nx (env := evL n st.length w (some (.ref (st.length + 2)))) (fb := fName 0) (fm := fName 1) H.two H.nx (ev_name rfl) (ev_name rfl) (by omega) (by omega)
  rw [ex_seq (ex_set ((ev_bin ev_c q1).trans (g_add _ _)))]
  have o2 : s2[st.length + 1]? = some (.lst (order.map .int)) := by have := q3.get 1; simpa using this
  have m2 : s2[st.length + 2]? = some (.lst (more.map lineD)) := by have := q3.get 2; simpa using this
  obtain ⟨M1, a1, a2, a3⟩ := ring_cut (env := (evL n st.length w (some (.ref (st.length + 2)))).set 7 (some (.int (1 + r)))) (f := fName 4) (fl := fNo) (fh := fPart (fName 7)) (ev_name rfl) o2 H.ob (by omega) rfl (ev_part (ev_name rfl))
  obtain ⟨M2, b1, b2, b3⟩ := ring_cut (env := (evL n st.length w (some (.ref (st.length + 2)))).set 7 (some (.int (1 + r)))) (f := fName 4) (fl := fPart (fBin gSub (fName 7) (fC (.int 1)))) (fh := fNo) (lo := some (1 + r - 1)) (ev_name rfl) o2 H.ob (by omega) (ev_part ((ev_bin (ev_name rfl) ev_c).trans rfl)) rfl
  have hX : (fBin gAdd (fBin gAdd (fCall F_law_ring (fCons (fSl (fName 4) fNo (fPart (fName 7))) fNil)) (fCall F_law_ring (fCons (fSl (fName 4) (fPart (fBin gSub (fName 7) (fC (.int 1)))) fNo) fNil))) (fName 2)) ((evL n st.length w (some (.ref (st.length + 2)))).set 7 (some (.int (1 + r)))) s2
      = .ok (.o (.lst ((M1 ++ M2 ++ more).map lineD))) s2 := by
    have z3 := (ev_bin (h := gAdd) a1 b1).trans (add_lists (by simp only [List.length_map]; omega))
    refine ((ev_bin z3 (ev_name rfl)).trans (add_ref m2 (by simp only [List.length_map, List.length_append]; omega))).trans ?_
    simp only [List.map_append]
  exact br_set hX q3 (by simp) ((a2.app b2).app H.mb) (by simp only [List.length_append]; omega)
theorem way4 (h6 : n < 6) : Br n st (fSeq (fSet 8 (fCall F_law_pick (fCons (fName 0) (fCons (fLst (fCons (fC (.int 1)) (fCons (fC (.int 2)) (fCons (fC (.int 2)) (fCons (fC (.int 3)) (fCons (fC (.int 6)) fNil)))))) fNil)))) (fSet 6 (fComp (fIt (fName 3)) (tgN 10) (fTrue (fBin gLt (fCall F_law_draw (fCons (fName 0) (fCons (fC (.int 6)) fNil))) (fName 8))) (fName 10) [10])) (evL n st.length w (some (.ref (st.length + 2)))) s) := by
  have hlit : (fLst (fCons (fC (.int 1)) (fCons (fC (.int 2)) (fCons (fC (.int 2)) (fCons (fC (.int 3)) (fCons (fC (.int 6)) fNil)))))) (evL n st.length w (some (.ref (st.length + 2)))) s = .ok (.o (.lst (([1, 2, 2, 3, 6] : List Int).map .int))) s :=
    ev_lst (ev_consV ev_c (ev_consV ev_c (ev_consV ev_c (ev_consV ev_c (ev_consV ev_c ev_nil))))) (by simp)
  obtain ⟨d, s2, q1, q2, q3⟩ := pickL_nx (env := evL n st.length w (some (.ref (st.length + 2)))) (fb := fName 0) H.two H.nx (ev_name rfl) hlit (fun d hd => (bls_ints _).mem d hd) (by simp) (by simp)
  obtain ⟨k, hk, rfl⟩ := List.mem_map.mp q2
  rw [ex_seq (ex_set q1)]
  have gP := q3.get 0
  simp only [Nat.add_zero, List.getElem?_cons_zero] at gP
  have hit : (fIt (fName 3)) ((evL n st.length w (some (.ref (st.length + 2)))).set 8 (some (.int k))) s2 = .ok ⟨(pairsE n).map lineD, Sq.at st.length ((pairsE n).map lineD)⟩ s2 := (ev_it (ev_name rfl)).trans (sq_ref gP)
  have fa := pairs_facts ⟨n, by have := H.n9; omega⟩
  simp only at fa
  obtain ⟨out, s', q1, q2, q3, q4⟩ := compL_ex (ok := Sq.at st.length ((pairsE n).map lineD)) (tg := tgN 10) (tt := fTrue (fBin gLt (fCall F_law_draw (fCons (fName 0) (fCons (fC (.int 6)) fNil))) (fName 8))) (elt := fName 10) (e0 := wipeE ((evL n st.length w (some (.ref (st.length + 2)))).set 8 (some (.int k))) [10])
    (Nx st [.lst ((pairsE n).map lineD), .lst (order.map .int), .lst (more.map lineD)]) (fun v => ∃ p, v = lineD p ∧ p ∈ pairsE n) (fun s h => by
      have := h.get 0
      show s[st.length]? = _
      simpa using this) ((pairsE n).map lineD) [] s2 (fun d hd s h => by
      obtain ⟨p, hp, rfl⟩ := List.mem_map.mp hd
      obtain ⟨r, s2, r1, r2, r3⟩ := draw_nx (env := ((evL n st.length w (some (.ref (st.length + 2)))).set 8 (some (.int k))).set 10 (some (lineD p))) (fb := fName 0) (fm := fC (.int 6)) H.two h (ev_name rfl) ev_c (by decide) (by decide)
      exact ⟨_, decide (r < k), s2, rfl, ev_true ((ev_bin r1 (ev_name rfl)).trans (gLt_int _ _)), r3, fun _ => ⟨lineD p, s2, ev_name rfl, r3, p, rfl, hp⟩⟩) (by simp; omega) q3 (by simp)
  obtain ⟨M, rfl, hM⟩ := lift_lines out q3
  refine br_set ((ev_comp hit).trans q1) q2 (by simp) (fun p hp => pairsE_bd H.n1 p (hM p hp)) ?_
  simp only [List.length_map, List.length_nil, Nat.zero_add] at q4
  exact Nat.lt_of_le_of_lt q4 (Nat.lt_trans (fa.2.1 h6) (by decide))
theorem way5 (h6 : 6 ≤ n) : Br n st (fSet 6 (fComp (fRng1 (fBin gAdd (fC (.int 5)) (fCall F_law_draw (fCons (fName 0) (fCons (fIf (fTrue (fBin gEq (fName 1) (fC (.int 6)))) (fC (.int 8)) (fC (.int 16))) fNil))))) (tgN 9) fYes (fCall F_law_pick (fCons (fName 0) (fCons (fName 3) fNil))) [9]) (evL n st.length w (some (.ref (st.length + 2)))) s) := by
  have fa := pairs_facts ⟨n, by have := H.n9; omega⟩
  simp only at fa
  have hif : (fIf (fTrue (fBin gEq (fName 1) (fC (.int 6)))) (fC (.int 8)) (fC (.int 16))) (evL n st.length w (some (.ref (st.length + 2)))) s = .ok (.v (.int (if (n : Int) = 6 then 8 else 16))) s := by
    rw [ev_if (ev_true ((ev_bin (ev_name rfl) ev_c).trans (gEq_int _ _)))]
    by_cases h : (n : Int) = 6
    · rw [if_pos (decide_eq_true h), if_pos h]; rfl
    · rw [if_neg (by rw [decide_eq_false h]; decide), if_neg h]; rfl
  obtain ⟨r, s2, q1, q2, q3⟩ := draw_nx (env := evL n st.length w (some (.ref (st.length + 2)))) (fb := fName 0) H.two H.nx (ev_name rfl) hif (by split <;> decide) (by split <;> decide)
  have hr : 0 ≤ r ∧ r < 16 := ⟨q2.1, Int.lt_of_lt_of_le q2.2 (by split <;> decide)⟩
  have hsrc : (fRng1 (fBin gAdd (fC (.int 5)) (fCall F_law_draw (fCons (fName 0) (fCons (fIf (fTrue (fBin gEq (fName 1) (fC (.int 6)))) (fC (.int 8)) (fC (.int 16))) fNil))))) (evL n st.length w (some (.ref (st.length + 2)))) s = .ok ⟨rngD 0 (5 + r).toNat, Sq.any⟩ s2 :=
    ev_rng1 ((ev_bin ev_c q1).trans (g_add _ _)) (by omega)
  obtain ⟨out, s', q1, q2, q3, q4⟩ := compL_all (ok := Sq.any) (tg := tgN 9) (elt := fCall F_law_pick (fCons (fName 0) (fCons (fName 3) fNil))) (e0 := wipeE (evL n st.length w (some (.ref (st.length + 2)))) [9])
    (Nx st [.lst ((pairsE n).map lineD), .lst (order.map .int), .lst (more.map lineD)]) (fun v => ∃ p, v = lineD p ∧ p ∈ pairsE n) (fun s h => trivial) (rngD 0 (5 + r).toNat) [] s2 (fun d hd s h => by
      have gP := h.get 0
      simp only [Nat.add_zero, List.getElem?_cons_zero] at gP
      obtain ⟨v, s3, r1, r2, r3⟩ := pick_nx (env := (evL n st.length w (some (.ref (st.length + 2)))).set 9 (some d)) (fb := fName 0) (fi := fName 3) H.two h (ev_name rfl) (ev_name rfl) H.two gP (bl0_lines _) (by simpa using fa.2.2.1 h6) (by simp; omega)
      obtain ⟨p, hp, rfl⟩ := List.mem_map.mp r2
      exact ⟨_, lineD p, s3, rfl, r1, r3, p, rfl, hp⟩) (by simp [rngD]; omega) q3 (by simp)
  obtain ⟨M, rfl, hM⟩ := lift_lines out q3
  refine br_set ((ev_comp hsrc).trans q1) q2 (by simp) (fun p hp => pairsE_bd H.n1 p (hM p hp)) ?_
  simp only [List.length_map, List.length_nil, Nat.zero_add] at q4
  rw [q4]; simp [rngD]; omega
end
end K41

set_option Elab.async false
set_option linter.all false
set_option maxRecDepth 100000
set_option maxHeartbeats 4000000
set_option autoImplicit false
namespace K41
open PySem PySem.Spec PyProof.Rows L2 Fx

theorem insU_len {lt : List Int → List Int → Bool} (x : List Int) : ∀ l : List (List Int), (insU lt x l).length ≤ l.length + 1
  | [] => by simp [insU]
  | y :: ys => by
    have ih := insU_len (lt := lt) x ys
    unfold insU
    split
    · simp
    · split
      · simp
      · simp; omega
theorem srtU_len {lt : List Int → List Int → Bool} : ∀ l : List (List Int), (srtU lt l).length ≤ l.length
  | [] => by simp [srtU]
  | x :: l => by
    have ih := srtU_len (lt := lt) l
    have := insU_len (lt := lt) x (srtU lt l)
    show (insU lt x (srtU lt l)).length ≤ _
    simp only [List.length_cons]; omega
theorem rng_nodup (n : Nat) : (rngI n).Nodup := by
  unfold rngI List.Nodup
  rw [List.pairwise_map]
  exact List.nodup_range.imp fun {a b} hab e => hab (by omega)
theorem mapM_asT : ∀ M : E2, (M.map lineD).mapM D.asT = some (M.map fun p => [p.1, p.2])
  | [] => rfl
  | p :: M => by
    rw [List.map_cons, List.mapM_cons, mapM_asT M]; rfl
theorem sorted_lines {n : Nat} {env : Fx.Env} {s : Store} {q : Nat} {M : E2} (h6 : env[6]? = some (some (.ref q))) (hg : s[q]? = some (.lst (M.map lineD))) (hb : Bd2 n M) (hn : n ≤ 10) (hl : M.length < 64) :
    ∃ E : E2, (fCall1 gTuple (fCall1 gSorted (fCall1 gSetT (fName 6)))) env s = .ok (.v (.tup (E.map lineD))) s ∧ Bd2 n E ∧ E.length < 64 ∧ E.Nodup := by
  have p1 : (fCall1 gSetT (fName 6)) env s = .ok (.o (.sT (M.map fun p => [p.1, p.2]))) s := by
    rw [ev_call1 (ev_name h6)]
    unfold gSetT
    simp only [seqL_ref hg, Option.bind_some, mapM_asT]
    rw [if_pos (by simpa using hl)]
  have ok : SetOk (M.map fun p => [p.1, p.2]) := ⟨2, by decide, fun l hl => by
    obtain ⟨p, hp, rfl⟩ := List.mem_map.mp hl
    have := hb p hp
    refine ⟨rfl, fun m hm => ?_⟩
    rcases List.mem_cons.mp hm with e | e
    · rw [e]; omega
    · rw [List.mem_singleton.mp e]; omega⟩
  have p2 : (fCall1 gSorted (fCall1 gSetT (fName 6))) env s = .ok (.o (.lst ((srtU lexB (M.map fun p => [p.1, p.2])).map dtup))) s := by
    rw [ev_call1 p1]
    unfold gSorted
    simp only [objOf_o]
    rw [if_pos ok]
  obtain ⟨E, e1, e2⟩ := lift_lines (Q := fun p => ((0 ≤ p.1 ∧ p.1 < n) ∧ 0 ≤ p.2 ∧ p.2 < n) ∧ p.1 ≠ p.2) ((srtU lexB (M.map fun p => [p.1, p.2])).map dtup) fun v hv => by
    obtain ⟨l, hl, rfl⟩ := List.mem_map.mp hv
    obtain ⟨p, hp, rfl⟩ := List.mem_map.mp ((srtU_mem _ _).mp hl)
    exact ⟨p, rfl, hb p hp⟩
  refine ⟨E, ?_, e2, ?_, ?_⟩
  · rw [ev_tuple p2, e1]
  · have h1 := srtU_len (lt := lexB) (M.map fun p => [p.1, p.2])
    have h2 : ((srtU lexB (M.map fun p => [p.1, p.2])).map dtup).length = E.length := by rw [e1]; simp
    simp only [List.length_map] at h1 h2
    omega
  · have hS : (srtU lexB (M.map fun p => [p.1, p.2])).Nodup := (srtU_pw sto_lex _).imp fun {a b} hab e => by
      subst e
      rw [sto_lex.irr] at hab; cases hab
    have hS2 : ((srtU lexB (M.map fun p => [p.1, p.2])).map dtup).Nodup := by
      unfold List.Nodup at hS ⊢
      rw [List.pairwise_map]
      refine hS.imp fun {a b} hab e => hab ?_
      have e2 : a.map D.int = b.map D.int := by
        unfold dtup at e
        injection e
      exact (List.map_inj_right (fun x y h => by injection h)).mp e2
    rw [e1] at hS2
    unfold List.Nodup at hS2 ⊢
    rw [List.pairwise_map] at hS2
    exact hS2.imp fun {a b} hab e => hab (by rw [e])
theorem F_lines_eq {n : Nat} {st : Store} (b : Bag st) (h1 : 1 ≤ n) (h9 : n ≤ 10) : ∃ (E : E2) (st' : Store), F_law_lines [.ref 1, .int (n : Int)] st = .ok (.v (.tup (E.map lineD))) st' ∧ Sx st st' ∧ Bd2 n E ∧ E.length < 64 ∧ E.Nodup := by
  have two := b.two
  let e0 : Fx.Env := [some (.ref 1), some (.int (n : Int)), none, none, none, none, none, none, none, none, none]
  have e : F_law_lines [.ref 1, .int (n : Int)] st = gc st (retOf (B_law_lines e0 st)) := rfl
  -- pairs, order, way
  have a1 : (fCall F_law_pairs (fCons (fName 1) fNil)) e0 st = .ok (.o (.lst ((pairsE n).map lineD))) st := ev_callS (ev_consV (ev_name rfl) ev_nil) (F_pairs_eq h1 h9 st)
  have rl : (fListRng1 (fName 1)) e0 (st ++ [O.lst ((pairsE n).map lineD)]) = .ok (.o (.lst ((rngI n).map .int))) (st ++ [O.lst ((pairsE n).map lineD)]) := by
    rw [ev_listRng1 (ev_name rfl) (by omega), rngD_eq]
  have gR : (st ++ [O.lst ((pairsE n).map lineD)] ++ [O.lst ((rngI n).map .int)])[(st ++ [O.lst ((pairsE n).map lineD)]).length]? = some (.lst ((rngI n).map .int)) := by simp
  obtain ⟨order, X, m1, m2, m3, m4, m5⟩ := F_mixed_eq ((b.app [O.lst ((pairsE n).map lineD)]).app [O.lst ((rngI n).map .int)]) (by simp; omega) gR (by simp [rngI]; omega)
  obtain ⟨X1, rfl, sx1⟩ := m2.split (by simp; omega)
  have a2 : (fCall F_law_mixed (fCons (fName 0) (fCons (fListRng1 (fName 1)) fNil))) e0 (st ++ [O.lst ((pairsE n).map lineD)]) = .ok (.o (.lst (order.map .int))) X1 := by
    rw [ev_call (ev_consV (ev_name rfl) (ev_consO rl ev_nil)) m1]
    exact gc_sxO (b.app _) sx1 _ (show OBl _ (.lst (order.map .int)) from bls_ints order)
  obtain ⟨s1, rfl, sx⟩ := sx1.split two
  have nx1 : Nx st [.lst ((pairsE n).map lineD), .lst (order.map .int)] (s1 ++ [O.lst ((pairsE n).map lineD)] ++ [O.lst (order.map .int)]) := ⟨s1, by simp, sx⟩
  obtain ⟨w, s2, d1, d2, nx2⟩ := draw_nx (env := e0) (fb := fName 0) (fm := fC (.int 8)) two nx1 (ev_name rfl) ev_c (by decide) (by decide)
  have hl1 : (s1 ++ [O.lst ((pairsE n).map lineD)]).length = st.length + 1 := by simp [sx.len]
  have p1 : fAsg (tgT (tgCons (tgN 3) (tgCons (tgN 4) (tgCons (tgN 5) tgNil)))) (fTup (fCons (fCall F_law_pairs (fCons (fName 1) fNil)) (fCons (fCall F_law_mixed (fCons (fName 0) (fCons (fListRng1 (fName 1)) fNil))) (fCons (fCall F_law_draw (fCons (fName 0) (fCons (fC (.int 8)) fNil))) fNil)))) e0 st = .next (evL n st.length w none) s2 := by
    have ht := ev_tup (ev_consO a1 (ev_consO a2 (ev_consV d1 ev_nil))) (by simp)
    rw [hl1] at ht
    exact ex_asg ht rfl
  -- more
  have gP : s2[st.length]? = some (.lst ((pairsE n).map lineD)) := by have := nx2.get 0; simpa using this
  have fa := pairs_facts ⟨n, by omega⟩
  simp only at fa
  have hmore : ∃ (more : E2) (s3 : Store), (fIf (fTrue (fBin gNe (fName 3) (fLst fNil))) (fComp (fRng1 (fCall F_law_draw (fCons (fName 0) (fCons (fC (.int 3)) fNil)))) (tgN 9) fYes (fCall F_law_pick (fCons (fName 0) (fCons (fName 3) fNil))) [9]) (fLst fNil)) (evL n st.length w none) s2 = .ok (.o (.lst (more.map lineD))) s3 ∧
      Nx st [.lst ((pairsE n).map lineD), .lst (order.map .int)] s3 ∧ Bd2 n more ∧ more.length ≤ 2 := by
    have hc : (fTrue (fBin gNe (fName 3) (fLst fNil))) (evL n st.length w none) s2 = .ok (!(pairsE n).isEmpty) s2 := ev_true ((ev_bin (ev_name rfl) (ev_lst ev_nil (by simp))).trans (gNe_lines _ gP))
    rw [ev_if hc]
    by_cases hp : (pairsE n).isEmpty = true
    · rw [hp]
      exact ⟨[], s2, ev_lst ev_nil (by simp), nx2, fun p hp => by simp at hp, by simp⟩
    · have hp' : (pairsE n).isEmpty = false := by simpa using hp
      rw [hp', if_pos (show (!false) = true from rfl)]
      have hne : 1 ≤ (pairsE n).length := by
        cases h : pairsE n with
        | nil => rw [h] at hp'; cases hp'
        | cons a l => simp
      obtain ⟨r, s3, q1, q2, q3⟩ := draw_nx (env := evL n st.length w none) (fb := fName 0) (fm := fC (.int 3)) two nx2 (ev_name rfl) ev_c (by decide) (by decide)
      have hsrc : (fRng1 (fCall F_law_draw (fCons (fName 0) (fCons (fC (.int 3)) fNil)))) (evL n st.length w none) s2 = .ok ⟨rngD 0 r.toNat, Sq.any⟩ s3 := ev_rng1 q1 (by omega)
      obtain ⟨out, s', q1, q2', q3, q4⟩ := compL_all (ok := Sq.any) (tg := tgN 9) (elt := fCall F_law_pick (fCons (fName 0) (fCons (fName 3) fNil))) (e0 := wipeE (evL n st.length w none) [9])
        (Nx st [.lst ((pairsE n).map lineD), .lst (order.map .int)]) (fun v => ∃ p, v = lineD p ∧ p ∈ pairsE n) (fun s h => trivial) (rngD 0 r.toNat) [] s3 (fun d hd s h => by
          have gP : s[st.length]? = some (.lst ((pairsE n).map lineD)) := by have := h.get 0; simpa using this
          obtain ⟨v, s3, r1, r2, r3⟩ := pick_nx (env := (evL n st.length w none).set 9 (some d)) (fb := fName 0) (fi := fName 3) two h (ev_name rfl) (ev_name rfl) two gP (bl0_lines _) (by simpa using hne) (by simp; omega)
          obtain ⟨p, hp, rfl⟩ := List.mem_map.mp r2
          exact ⟨_, lineD p, s3, rfl, r1, r3, p, rfl, hp⟩) (by simp [rngD]; omega) q3 (by simp)
      obtain ⟨M, rfl, hM⟩ := lift_lines out q3
      refine ⟨M, s', (ev_comp hsrc).trans q1, q2', fun p hp => pairsE_bd h1 p (hM p hp), ?_⟩
      simp only [List.length_map, List.length_nil, Nat.zero_add] at q4
      rw [q4]; simp [rngD]; omega
  obtain ⟨more, s3, k1, nx3, k3, k4⟩ := hmore
  have hl3 : s3.length = st.length + 2 := by rw [nx3.len]; rfl
  have p2 := ex_setO (k := 2) k1
  rw [hl3] at p2
  have H : Wy n st (s3 ++ [O.lst (more.map lineD)]) order more := ⟨h1, h9, two, nx3.push _, fun v hv => mem_rngI.mp (m3 v hv), by simpa [rngI] using m4, m5.nodup_iff.mpr (rng_nodup n), k3, k4⟩
  rw [e]
  unfold B_law_lines
  rw [ex_seq p1, ex_seq p2]
  have hset : (evL n st.length w none).set 2 (some (.ref (st.length + 2))) = evL n st.length w (some (.ref (st.length + 2))) := rfl
  rw [hset]
  have cw : ∀ k : Int, (fTrue (fBin gEq (fName 5) (fC (.int k)))) (evL n st.length w (some (.ref (st.length + 2)))) (s3 ++ [O.lst (more.map lineD)]) = .ok (decide (w = k)) (s3 ++ [O.lst (more.map lineD)]) := fun k => ev_true ((ev_bin (ev_name rfl) ev_c).trans (gEq_int _ _))
  have c6 : (fTrue (fBin gLt (fName 1) (fC (.int 6)))) (evL n st.length w (some (.ref (st.length + 2)))) (s3 ++ [O.lst (more.map lineD)]) = .ok (decide ((n : Int) < 6)) (s3 ++ [O.lst (more.map lineD)]) := ev_true ((ev_bin (ev_name rfl) ev_c).trans (gLt_int _ _))
  have fin : ∀ o : OutS, Br n st o → ∃ (E : E2) (st' : Store), gc st (retOf (o.seq (fRet (fCall1 gTuple (fCall1 gSorted (fCall1 gSetT (fName 6))))))) = .ok (.v (.tup (E.map lineD))) st' ∧ Sx st st' ∧ Bd2 n E ∧ E.length < 64 ∧ E.Nodup := by
    rintro o ⟨env', s', q, M, t1, ex, rfl, r1, rfl, sxx, r2, r3, r4⟩
    obtain ⟨E, u1, u2, u3, u4⟩ := sorted_lines r1 r2 r3 h9 r4
    refine ⟨E, t1, ?_, sxx, u2, u3, u4⟩
    rw [OutS.seq_next, ex_ret u1]
    exact gc_sx b sxx ex (bl_lines E)
  show ∃ (E : E2) (st' : Store), gc st (retOf (OutS.seq _ _)) = _ ∧ _
  refine fin _ ?_
  rw [ex_if (cw 0)]
  by_cases w0 : w = 0
  · rw [if_pos (decide_eq_true w0)]; exact way0 H
  rw [if_neg (by simp [w0]), ex_if (cw 1)]
  by_cases w1 : w = 1
  · rw [if_pos (decide_eq_true w1)]; exact way1 H
  rw [if_neg (by simp [w1]), ex_if (cw 2)]
  by_cases w2 : w = 2
  · rw [if_pos (decide_eq_true w2)]; exact way2 H
  rw [if_neg (by simp [w2]), ex_if (cw 3)]
  by_cases w3 : w = 3
  · rw [if_pos (decide_eq_true w3)]; exact way3 H
  rw [if_neg (by simp [w3]), ex_if c6]
  by_cases w6 : (n : Int) < 6
  · rw [if_pos (decide_eq_true w6)]; exact way4 H (by omega)
  · rw [if_neg (by simp [w6])]; exact way5 H (by omega)
end K41

set_option Elab.async false
set_option linter.all false
set_option maxRecDepth 100000
set_option maxHeartbeats 4000000
set_option autoImplicit false
namespace K41
open PySem PySem.Spec PyProof.Rows L2 Fx

theorem lift_ints {Q : Int → Prop} : ∀ (out : List D), (∀ v ∈ out, ∃ k, v = D.int k ∧ Q k) → ∃ L : List Int, out = L.map .int ∧ ∀ k ∈ L, Q k
  | [], _ => ⟨[], rfl, by simp⟩
  | v :: out, h => by
    obtain ⟨L, e, hL⟩ := lift_ints out fun u hu => h u (List.mem_cons_of_mem _ hu)
    obtain ⟨k, hk, hq⟩ := h v List.mem_cons_self
    exact ⟨k :: L, by rw [hk, e]; rfl, fun z hz => by
      rcases List.mem_cons.mp hz with q | q
      · rw [q]; exact hq
      · exact hL z q⟩
theorem gGt_int {st : Store} (a b : Int) : gGt (.v (.int a)) (.v (.int b)) st = .ok (.v (.bl (decide (b < a)))) st := rfl
theorem g_sub {st : Store} (i j : Int) : gSub (.v (.int i)) (.v (.int j)) st = .ok (.v (.int (i - j))) st := by
  show (if True then (Out.ok (R.v (D.int (i - j))) st) else Out.stuck) = _
  rw [if_pos trivial]
theorem nx_refl {st : Store} (b : Bag st) : Nx st [] st := ⟨st, by simp, Sx.refl b⟩
theorem nx_sx {st s : Store} (h : Nx st [] s) : Sx st s := by
  obtain ⟨s1, rfl, sx⟩ := h
  simpa using sx
theorem F_net_eq {st : Store} (b : Bag st) (lo hi : Nat) (h1 : 1 ≤ lo) (h2 : lo ≤ hi) (h9 : hi ≤ 10) :
    ∃ (n : Nat) (tr : List Int) (E : E2) (st' : Store), F_law_net [.ref 1, .int (lo : Int), .int (hi : Int)] st = .ok (.v (netD tr E)) st' ∧ NOk n tr E ∧ 1 ≤ n ∧ (∀ v ∈ tr, 1 ≤ v ∧ v ≤ 4) ∧ n ≤ hi ∧ Sx st st' ∧ E.Nodup ∧ (∀ p ∈ E, p.1 ≠ p.2) := by
  have two := b.two
  let e0 : Fx.Env := [some (.ref 1), some (.int (lo : Int)), some (.int (hi : Int)), none, none, none]
  have e : F_law_net [.ref 1, .int (lo : Int), .int (hi : Int)] st = gc st (retOf (B_law_net e0 st)) := rfl
  obtain ⟨r, s1, d1, d2, nx1⟩ := draw_nx (env := e0) (fb := fName 0) (fm := fBin gAdd (fBin gSub (fName 2) (fName 1)) (fC (.int 1))) two (nx_refl b) (ev_name rfl) ((ev_bin ((ev_bin (ev_name rfl) (ev_name rfl)).trans (g_sub _ _)) ev_c).trans (g_add _ _)) (by omega) (by omega)
  obtain ⟨n, hn⟩ : ∃ n : Nat, (lo : Int) + r = (n : Int) := ⟨((lo : Int) + r).toNat, by omega⟩
  have n1 : 1 ≤ n := by omega
  have n9 : n ≤ 10 := by omega
  have p1 : fSet 3 (fBin gAdd (fName 1) (fCall F_law_draw (fCons (fName 0) (fCons (fBin gAdd (fBin gSub (fName 2) (fName 1)) (fC (.int 1))) fNil)))) e0 st = .next (e0.set 3 (some (.int (n : Int)))) s1 := by
    rw [ex_set ((ev_bin (ev_name rfl) d1).trans (g_add _ _)), hn]
  have hsrc : (fRng1 (fName 3)) (e0.set 3 (some (.int (n : Int)))) s1 = .ok ⟨rngD 0 (n : Int).toNat, Sq.any⟩ s1 := ev_rng1 (ev_name rfl) (by omega)
  obtain ⟨out, s2, q1, q2, q3, q4⟩ := compL_all (ok := Sq.any) (tg := tgN 5) (elt := fCall F_law_pick (fCons (fName 0) (fCons (fLst (fCons (fC (.int 1)) (fCons (fC (.int 1)) (fCons (fC (.int 1)) (fCons (fC (.int 2)) (fCons (fC (.int 2)) (fCons (fC (.int 3)) (fCons (fC (.int 4)) fNil)))))))) fNil))) (e0 := wipeE (e0.set 3 (some (.int (n : Int)))) [5])
    (Nx st []) (fun v => ∃ k, v = D.int k ∧ (1 ≤ k ∧ k ≤ 4)) (fun s h => trivial) (rngD 0 (n : Int).toNat) [] s1 (fun d hd s h => by
      have hlit : (fLst (fCons (fC (.int 1)) (fCons (fC (.int 1)) (fCons (fC (.int 1)) (fCons (fC (.int 2)) (fCons (fC (.int 2)) (fCons (fC (.int 3)) (fCons (fC (.int 4)) fNil)))))))) ((e0.set 3 (some (.int (n : Int)))).set 5 (some d)) s = .ok (.o (.lst (([1, 1, 1, 2, 2, 3, 4] : List Int).map .int))) s :=
        ev_lst (ev_consV ev_c (ev_consV ev_c (ev_consV ev_c (ev_consV ev_c (ev_consV ev_c (ev_consV ev_c (ev_consV ev_c ev_nil))))))) (by simp)
      obtain ⟨v, s3, r1, r2, r3⟩ := pickL_nx (env := (e0.set 3 (some (.int (n : Int)))).set 5 (some d)) (fb := fName 0) two h (ev_name rfl) hlit (fun d hd => (bls_ints _).mem d hd) (by simp) (by simp)
      obtain ⟨k, hk, rfl⟩ := List.mem_map.mp r2
      refine ⟨_, .int k, s3, rfl, r1, r3, k, rfl, ?_⟩
      simp only [List.mem_cons, List.not_mem_nil, or_false] at hk
      omega) (by simp [rngD]; omega) nx1 (by simp)
  obtain ⟨tr, rfl, htr⟩ := lift_ints out q3
  have hlen : tr.length = n := by
    simp only [List.length_map, List.length_nil, Nat.zero_add] at q4
    rw [q4]; simp [rngD]
  have sx2 := nx_sx q2
  obtain ⟨E, s3, l1, l2, l3, l4, l5⟩ := F_lines_eq sx2.bag n1 n9
  have p2 := ex_set (k := 4) (ev_tuple ((ev_comp hsrc).trans q1))
  refine ⟨n, tr, E, s3, ?_, ⟨⟨fun p hp => (l3 p hp).1, by omega, by omega⟩, hlen, fun v hv => by have := htr v hv; omega, by omega⟩, n1, htr, by omega, sx2.trans l2, l5, fun p hp => (l3 p hp).2⟩
  rw [e]
  unfold B_law_net
  rw [ex_seq p1, ex_seq p2]
  have hc : (fCall F_law_lines (fCons (fName 0) (fCons (fName 3) fNil))) ((e0.set 3 (some (.int (n : Int)))).set 4 (some (.tup (tr.map .int)))) s2 = .ok (.v (.tup (E.map lineD))) s3 := by
    rw [ev_call (ev_consV (ev_name rfl) (ev_consV (ev_name rfl) ev_nil)) l1]
    exact gc_sx0 sx2.bag l2 (bl_lines E)
  rw [ex_ret (ev_tup (ev_consV (ev_name rfl) (ev_consV hc ev_nil)) (by simp))]
  exact gc_sx0 b (sx2.trans l2) (bl_net tr E)

/-! ### what is drawn of, at first -/
theorem cut_lz {env : Fx.Env} {st : Store} {ns : List Int} (h : env[0]? = some (some (.lz (ns.map .int)))) : (fSl (fName 0) fNo (fPart (fC (.int 60)))) env st = .ok (.o (.lst ((cutI ns none (some 60)).map .int))) st := by
  unfold fSl
  rw [ev_name h]
  have h2 : (fPart (fC (.int 60))) env st = .ok (some 60) st := ev_part ev_c
  simp only [Out.bind, fNo, h2]
  unfold slc
  simp only [seqL, cut_map]
theorem F_bag_eq (ns : List Int) (hl : ns.length ≤ 63) : ∃ (far : List Int) (m : Int), F_law_bag [.lz (ns.map .int)] [] = .ok (.o (.dK (bagK m 0))) [.lst (far.map .int)] ∧ far.length ≤ 1000 := by
  let e0 : Fx.Env := [some (.lz (ns.map .int)), none, none]
  have e : F_law_bag [.lz (ns.map .int)] [] = gc [] (retOf (B_law_bag e0 [])) := rfl
  have c := cut_len ns none (some 60)
  have p1 : fSet 1 (fBin gAdd (fC (.int 71993)) (fBin gMul (fC (.int 29)) (fCall1 gLen (fSl (fName 0) fNo (fPart (fC (.int 60))))))) e0 [] = .next [some (.lz (ns.map .int)), some (.int (71993 + 29 * ((cutI ns none (some 60)).length : Int))), none] [] := by
    have h1 : (fCall1 gLen (fSl (fName 0) fNo (fPart (fC (.int 60))))) e0 [] = .ok (.v (.int ((cutI ns none (some 60)).length : Int))) [] := by
      rw [ev_call1 (cut_lz (ns := ns) rfl)]; simp [gLen, seqL]
    rw [ex_set ((ev_bin ev_c ((ev_bin ev_c h1).trans (g_mul _ _ (.inl (by decide))))).trans (g_add _ _))]; rfl
  have hit : ∀ m : Int, (fIt (fSl (fName 0) fNo (fPart (fC (.int 60))))) [some (.lz (ns.map .int)), some (.int m), none] [] = .ok ⟨(cutI ns none (some 60)).map .int, Sq.any⟩ [] := fun m => (ev_it (cut_lz (ns := ns) rfl)).trans rfl
  obtain ⟨e', s', k, ⟨m, x, rfl, rfl⟩, _⟩ := forL_inv (ok := Sq.any) (tg := tgN 2) (body := L_law_bag_1) (e0 := [some (.lz (ns.map .int)), some (.int (71993 + 29 * ((cutI ns none (some 60)).length : Int))), none])
    (fun rest env s => (∃ m x, env = [some (.lz (ns.map .int)), some (.int m), x] ∧ s = []) ∧ ∃ todo : List Int, rest = todo.map .int) (fun rest env s ⟨⟨m, x, h, _⟩, _⟩ => ⟨trivial, by rw [h]; rfl⟩)
    (fun d rest env s ⟨⟨m, x, h1, h2⟩, todo, h3⟩ => by
      cases todo with
      | nil => simp at h3
      | cons v todo =>
        simp only [List.map_cons, List.cons.injEq] at h3
        obtain ⟨rfl, rfl⟩ := h3
        subst h1 h2
        have hb : L_law_bag_1 [some (.lz (ns.map .int)), some (.int m), some (.int v)] [] = .next [some (.lz (ns.map .int)), some (.int ((m * 69621 + 3 * v + 1) % 2147483629)), some (.int v)] [] := by
          unfold L_law_bag_1
          rw [ex_set ((ev_bin (ev_int ((ev_bin ((ev_bin ((ev_bin (ev_name rfl) ev_c).trans (g_mul _ _ (.inr (by decide)))) ((ev_bin ev_c (ev_name rfl)).trans (g_mul _ _ (.inl (by decide))))).trans (g_add _ _)) ev_c).trans (g_add _ _))) ev_c).trans (g_mod _ _ (by decide)))]; rfl
        exact ⟨[some (.lz (ns.map .int)), some (.int m), some (.int v)], rfl, _, _, .inl hb, ⟨_, _, rfl, rfl⟩, todo, rfl⟩)
    ((cutI ns none (some 60)).map .int) [some (.lz (ns.map .int)), some (.int (71993 + 29 * ((cutI ns none (some 60)).length : Int))), none] [] ⟨⟨_, _, rfl, rfl⟩, _, rfl⟩
  have ab : ∀ (v : Int) (st : Store), gAbs (.v (.int v)) st = .ok (.v (.int (if v < 0 then -v else v))) st := fun v st => rfl
  have pw : ∀ st : Store, gPow (.v (.int 10)) (.v (.int 12)) st = .ok (.v (.int (10 ^ (12 : Int).toNat))) st := fun st => by
    unfold Fx.gPow gI
    simp only
    rw [if_pos (by decide)]
  have hc := compL_pure (ok := Sq.any) (st := []) trivial (tg := tgN 2) (tt := fTrue (fBin gGt (fCall1 gAbs (fName 2)) (fBin gPow (fC (.int 10)) (fC (.int 12))))) (elt := fCall1 gAbs (fName 2)) (e0 := wipeE [some (.lz (ns.map .int)), some (.int m), none] [2])
    (fun d => match d with | .int v => decide ((10 : Int) ^ (12 : Int).toNat < (if v < 0 then -v else v)) | _ => false) (fun d => match d with | .int v => .int (if v < 0 then -v else v) | _ => .non) ((cutI ns none (some 60)).map .int) [] (fun d hd => by
      obtain ⟨v, _, rfl⟩ := List.mem_map.mp hd
      refine ⟨[some (.lz (ns.map .int)), some (.int m), some (.int v)], rfl, ?_, fun _ => ?_⟩
      · exact ev_true ((ev_bin ((ev_call1 (ev_name rfl)).trans (ab _ _)) ((ev_bin ev_c ev_c).trans (pw _))).trans (gGt_int _ _))
      · exact (ev_call1 (ev_name rfl)).trans (ab _ _)) (by simp; omega)
  obtain ⟨far, hf1, hf2⟩ : ∃ far : List Int, ([] ++ (((cutI ns none (some 60)).map D.int).filter fun d => match d with | .int v => decide ((10 : Int) ^ (12 : Int).toNat < (if v < 0 then -v else v)) | _ => false).map fun d => match d with | .int v => D.int (if v < 0 then -v else v) | _ => .non) = far.map .int ∧ far.length ≤ 1000 := by
    obtain ⟨far, h1, _⟩ := lift_ints (Q := fun _ => True) ([] ++ (((cutI ns none (some 60)).map D.int).filter fun d => match d with | .int v => decide ((10 : Int) ^ (12 : Int).toNat < (if v < 0 then -v else v)) | _ => false).map fun d => match d with | .int v => D.int (if v < 0 then -v else v) | _ => .non) (fun u hu => by
      rw [List.nil_append] at hu
      obtain ⟨d, hd, rfl⟩ := List.mem_map.mp hu
      obtain ⟨v, _, rfl⟩ := List.mem_map.mp (List.mem_filter.mp hd).1
      exact ⟨_, rfl, trivial⟩)
    refine ⟨far, h1, ?_⟩
    have h2 := congrArg List.length h1
    simp only [List.nil_append, List.length_map] at h2
    rw [← h2]
    refine Nat.le_trans (List.length_filter_le _ _) ?_
    simp only [List.length_map]; omega
  rw [hf1] at hc
  refine ⟨far, m, ?_, hf2⟩
  rw [e]
  unfold B_law_bag
  rw [ex_seq p1, ex_seq ((ex_for (hit _)).trans k)]
  have hs : scope [some (.lz (ns.map .int)), some (.int (71993 + 29 * ((cutI ns none (some 60)).length : Int))), none] [some (.lz (ns.map .int)), some (.int m), x] = [some (.lz (ns.map .int)), some (.int m), none] := rfl
  rw [hs]
  have hd : (fDisp [((fC (.str "far")), (fComp (fIt (fSl (fName 0) fNo (fPart (fC (.int 60))))) (tgN 2) (fTrue (fBin gGt (fCall1 gAbs (fName 2)) (fBin gPow (fC (.int 10)) (fC (.int 12))))) (fCall1 gAbs (fName 2)) [2])), ((fC (.str "mixed")), (fName 1)), ((fC (.str "turn")), (fC (.int 0)))]) [some (.lz (ns.map .int)), some (.int m), none] []
      = .ok (.o (.dK (bagK m 0))) [.lst (far.map .int)] := by
    have hfl : (fFlat [((fC (.str "far")), (fComp (fIt (fSl (fName 0) fNo (fPart (fC (.int 60))))) (tgN 2) (fTrue (fBin gGt (fCall1 gAbs (fName 2)) (fBin gPow (fC (.int 10)) (fC (.int 12))))) (fCall1 gAbs (fName 2)) [2])), ((fC (.str "mixed")), (fName 1)), ((fC (.str "turn")), (fC (.int 0)))]) [some (.lz (ns.map .int)), some (.int m), none] []
        = .ok [.str "far", .ref 0, .str "mixed", .int m, .str "turn", .int 0] [.lst (far.map .int)] := by
      simp only [fFlat]
      exact ev_consV ev_c (ev_consO ((ev_comp (hit m)).trans hc) (ev_consV ev_c (ev_consV (ev_name rfl) (ev_consV ev_c (ev_consV ev_c ev_nil)))))
    unfold fDisp
    rw [hfl]
    rfl
  rw [ex_ret hd]
  refine gc_newO' (st := []) (ex := [.lst (far.map .int)]) fun h => ?_
  have := h (.inr "far", .ref 0) (by simp [bagK])
  cases this with
  | ref q => exact absurd q (by simp)
end K41

set_option Elab.async false
set_option linter.all false
set_option maxRecDepth 100000
set_option maxHeartbeats 4000000
set_option autoImplicit false
namespace K41
open PySem PySem.Spec PyProof.Rows L2 Fx

theorem ixN0 {i : Nat} {tr : List Int} {E : E2} {env : Fx.Env} {st : Store} (h : env[i]? = some (some (netD tr E))) : (fBin gIx (fName i) (fC (.int 0))) env st = .ok (.v (.tup (tr.map .int))) st := (ev_bin (ev_name h) ev_c).trans (ix_tup (i := 0) rfl)
theorem ixN1 {i : Nat} {tr : List Int} {E : E2} {env : Fx.Env} {st : Store} (h : env[i]? = some (some (netD tr E))) : (fBin gIx (fName i) (fC (.int 1))) env st = .ok (.v (.tup (E.map lineD))) st := (ev_bin (ev_name h) ev_c).trans (ix_tup (i := 1) rfl)
def onesL (n : Nat) (k : Int) : List Int := (rngI n).map fun _ => k
theorem ones_len (n : Nat) (k : Int) : (onesL n k).length = n := by simp [onesL, rngI]
theorem ones_mem {n : Nat} {k v : Int} (h : v ∈ onesL n k) : v = k := by
  obtain ⟨_, _, rfl⟩ := List.mem_map.mp h
  rfl
theorem ungL_ones (n : Nat) (E : E2) : ungL (onesL n 1) E = (rngI n).filter (up n E) := by
  unfold ungL
  rw [ones_len]
  refine List.filter_congr fun i hi => ?_
  obtain ⟨b1, b2⟩ := mem_rngI.mp hi
  have : (onesL n 1).getD i.toNat 0 = 1 := by
    have h1 : (onesL n 1)[i.toNat]? = some 1 := by
      unfold onesL
      rw [List.getElem?_map]
      have : i.toNat < (rngI n).length := by simp [rngI]; omega
      rw [List.getElem?_eq_getElem this]; rfl
    simp [List.getD, h1]
  rw [this]; simp
theorem ungL_of {n : Nat} (T : List Int) (E : E2) (hT : T.length = n) : ungL T E = ((rngI n).filter (up n E)).filter fun i => decide (T.getD i.toNat 0 = 1) := by
  unfold ungL
  rw [hT, List.filter_filter]
theorem comp_const {env : Fx.Env} {s : Store} {n : Nat} (k : Int) (h4 : env[4]? = some (some (.int (n : Int)))) (hn : n ≤ 60) (h10 : 10 < env.length) : (fCall1 gTuple (fComp (fRng1 (fName 4)) (tgN 10) fYes (fC (.int k)) [10])) env s = .ok (.v (.tup ((onesL n k).map .int))) s := by
  have hsrc : (fRng1 (fName 4)) env s = .ok ⟨(rngI n).map .int, Sq.any⟩ s := by
    rw [ev_rng1 (ev_name h4) (by omega), rngD_eq]
  have hc := compL_pure (ok := Sq.any) (st := s) trivial (tg := tgN 10) (tt := fYes) (elt := fC (.int k)) (e0 := wipeE env [10]) (fun _ => true) (fun _ => .int k) ((rngI n).map .int) [] (fun d hd => ⟨_, rfl, rfl, fun _ => rfl⟩) (by simp [rngI]; omega)
  have e3 : ([] ++ (((rngI n).map D.int).filter fun _ => true).map fun _ => D.int k) = (onesL n k).map .int := by
    rw [List.nil_append, List.filter_eq_self.mpr (fun _ _ => rfl)]
    unfold onesL
    rw [List.map_map, List.map_map]; rfl
  rw [e3] at hc
  exact ev_tuple ((ev_comp hsrc).trans hc)
end K41

set_option Elab.async false
set_option linter.all false
set_option maxRecDepth 100000
set_option maxHeartbeats 4000000
set_option autoImplicit false
namespace K41
open PySem PySem.Spec PyProof.Rows L2 Fx

def rowD (r : List Int) : D := .tup (r.map .int)
theorem obl_rows {m : Nat} (R : List (List Int)) : OBl m (.lst (R.map rowD)) := Bls.of fun d hd => by
  obtain ⟨r, _, rfl⟩ := List.mem_map.mp hd
  exact bl_tints r
theorem app_row {st : Store} {k : Nat} {W : List (List Int)} (v : List Int) (h : st[k]? = some (.lst (W.map rowD))) (hl : W.length < 1000000) : gAppend (.v (.ref k)) (.v (rowD v)) st = .ok (.v .non) (st.set k (.lst ((W ++ [v]).map rowD))) := by
  unfold gAppend
  simp only [alloc_v, lstAt, h]
  rw [if_pos (by simpa using hl)]
  simp
theorem tup_last {st : Store} (xs : List D) (d : D) : gIx (.v (.tup (xs ++ [d]))) (.v (.int (-1))) st = .ok (.v d) st := by
  have e : L2.atI (xs ++ [d]) (-1) = some d := by
    unfold L2.atI L2.ixN
    have k : ((-1 : Int) + ((xs ++ [d]).length : Nat)).toNat = xs.length := by simp; omega
    rw [if_neg (by decide), if_pos (by simp; omega)]
    simp only [Option.bind_some, k]
    simp
  unfold gIx idx
  simp only [seqL, e]
theorem mapM_rows {st : Store} : ∀ Fd : List (List Int), (Fd.map rowD).mapM (D.toP st 59) = some (Fd.map fun T => PyData.tuple (T.map .int))
  | [] => rfl
  | T :: Fd => by
    have h : D.toP st 59 (rowD T) = some (.tuple (T.map .int)) := by
      show D.toP st 59 (.tup _) = _
      rw [D.toP, mapM_ints]; rfl
    rw [List.map_cons, List.mapM_cons, h, mapM_rows Fd]; rfl
theorem gNe_rows {st : Store} {q : Nat} (Fd : List (List Int)) (h : st[q]? = some (.lst (Fd.map rowD))) : gNe (.v (.ref q)) (.o (.lst [])) st = .ok (.v (.bl (!Fd.isEmpty))) st := by
  have e : R.toP st 60 (.v (.ref q)) = some (.list (Fd.map fun T => PyData.tuple (T.map .int))) := by
    show D.toP st 60 (.ref q) = _
    rw [D.toP, h]
    simp only
    rw [mapM_rows]; rfl
  have e2 : R.toP st 60 (.o (.lst [])) = some (.list []) := rfl
  simp only [gNe, e, e2]
  cases Fd <;> rfl
theorem gEq_rows {st : Store} {q : Nat} (Fd : List (List Int)) (h : st[q]? = some (.lst (Fd.map rowD))) : gEq (.v (.ref q)) (.o (.lst [])) st = .ok (.v (.bl Fd.isEmpty)) st := by
  have e : R.toP st 60 (.v (.ref q)) = some (.list (Fd.map fun T => PyData.tuple (T.map .int))) := by
    show D.toP st 60 (.ref q) = _
    rw [D.toP, h]
    simp only
    rw [mapM_rows]; rfl
  have e2 : R.toP st 60 (.o (.lst [])) = some (.list []) := rfl
  simp only [gEq, e, e2]
  cases Fd <;> rfl
abbrev stD (b : Store) (Fd : List (List Int)) (G : Store) (Sk : List (List Int)) : Store := b ++ (.lst (Fd.map rowD) :: (G ++ [.lst (Sk.map rowD)]))
section
variable (b : Store) (Fd : List (List Int)) (G : Store) (Sk : List (List Int))
theorem stD_found : (stD b Fd G Sk)[b.length]? = some (.lst (Fd.map rowD)) := by
  rw [List.getElem?_append_right (by omega)]; simp
theorem stD_stk : (stD b Fd G Sk)[b.length + 1 + G.length]? = some (.lst (Sk.map rowD)) := by
  rw [List.getElem?_append_right (by omega), show b.length + 1 + G.length - b.length = G.length + 1 by omega]
  simp
theorem stD_old {i : Nat} (h : i < b.length) : (stD b Fd G Sk)[i]? = b[i]? := List.getElem?_append_left h
theorem stD_setF (X : List (List Int)) : (stD b Fd G Sk).set b.length (.lst (X.map rowD)) = stD b X G Sk := by
  unfold stD
  rw [List.set_append_right _ _ (by omega), show b.length - b.length = 0 by omega, List.set_cons_zero]
theorem stD_setS (X : List (List Int)) : (stD b Fd G Sk).set (b.length + 1 + G.length) (.lst (X.map rowD)) = stD b Fd G X := by
  unfold stD
  rw [List.set_append_right _ _ (by omega), show b.length + 1 + G.length - b.length = G.length + 1 by omega, List.set_cons_succ, List.set_append_right _ _ (by omega)]
  simp
end
abbrev evD (N : D) (f : Int) (a L K : Nat) (r x : Option D) : Fx.Env := [some N, some (.int f), some (.ref a), some (.ref L), some (.ref K), r, x]
theorem rows_in (b G : Store) (N : D) (f : Int) (a : Nat) (p : List Int) (ok : Store → Prop) (hok : ∀ Fd Sk, ok (stD b Fd G Sk)) (hp : p.length < 1000) (ds : List Int) (Fd Sk : List (List Int)) (h1 : Fd.length + ds.length < 1000000) (h2 : Sk.length + ds.length < 1000000) :
    forL ok (tgN 6) L_law_all_rounds_1 (evD N f a b.length (b.length + 1 + G.length) (some (rowD p)) none) (ds.map .int) (evD N f a b.length (b.length + 1 + G.length) (some (rowD p)) none) (stD b Fd G Sk)
      = .next (evD N f a b.length (b.length + 1 + G.length) (some (rowD p)) none) (stD b (Fd ++ (ds.filter fun v => decide (v = f ∧ 1 < p.length)).map fun _ => p) G (Sk ++ (ds.filter fun v => decide (f < v ∧ v ∉ p)).map fun v => p ++ [v])) := by
  obtain ⟨e', s', k, done, todo, x, q1, q2, q3, q4⟩ := forL_inv (ok := ok) (tg := tgN 6) (body := L_law_all_rounds_1) (e0 := evD N f a b.length (b.length + 1 + G.length) (some (rowD p)) none)
    (fun rest env st => ∃ done todo x, ds = done ++ todo ∧ rest = todo.map .int ∧ env = evD N f a b.length (b.length + 1 + G.length) (some (rowD p)) x ∧ st = stD b (Fd ++ (done.filter fun v => decide (v = f ∧ 1 < p.length)).map fun _ => p) G (Sk ++ (done.filter fun v => decide (f < v ∧ v ∉ p)).map fun v => p ++ [v]))
    (fun rest env st ⟨_, _, x, _, _, h, h'⟩ => ⟨by rw [h']; exact hok _ _, by rw [h]; rfl⟩)
    (fun d rest env st ⟨done, todo, x, e1, e2, e3, e4⟩ => by
      cases todo with
      | nil => simp at e2
      | cons v todo =>
        simp only [List.map_cons, List.cons.injEq] at e2
        obtain ⟨rfl, rfl⟩ := e2
        subst e3
        refine ⟨evD N f a b.length (b.length + 1 + G.length) (some (rowD p)) (some (.int v)), rfl, ?_⟩
        have hdl : done.length + (todo.length + 1) = ds.length := by rw [e1]; simp
        let F1 := Fd ++ (done.filter fun v => decide (v = f ∧ 1 < p.length)).map fun _ => p
        let S1 := Sk ++ (done.filter fun v => decide (f < v ∧ v ∉ p)).map fun v => p ++ [v]
        have hF1 : F1.length < 1000000 := by
          have := List.length_filter_le (fun v => decide (v = f ∧ 1 < p.length)) done
          simp only [F1, List.length_append, List.length_map]; omega
        have hS1 : S1.length < 1000000 := by
          have := List.length_filter_le (fun v => decide (f < v ∧ v ∉ p)) done
          simp only [S1, List.length_append, List.length_map]; omega
        let env : Fx.Env := evD N f a b.length (b.length + 1 + G.length) (some (rowD p)) (some (.int v))
        have hlen : ∀ st, (fCall1 gLen (fName 5)) env st = .ok (.v (.int (p.length : Int))) st := fun st => by
          rw [ev_call1 (ev_name rfl)]; simp [gLen, rowD]
        have c1 : ∀ st, (fAnd (fTrue (fBin gEq (fName 6) (fName 1))) (fTrue (fBin gGt (fCall1 gLen (fName 5)) (fC (.int 1))))) env st = .ok (decide (v = f ∧ 1 < p.length)) st := fun st => by
          rw [ev_and (ev_true ((ev_bin (ev_name rfl) (ev_name rfl)).trans (gEq_int v f)))]
          by_cases hv : v = f
          · rw [if_pos (decide_eq_true hv), ev_true ((ev_bin (hlen st) ev_c).trans (gGt_int _ _))]
            by_cases hp1 : 1 < p.length
            · rw [decide_eq_true (show (1 : Int) < (p.length : Int) by omega), decide_eq_true ⟨hv, hp1⟩]
            · rw [decide_eq_false (show ¬ (1 : Int) < (p.length : Int) by omega), decide_eq_false fun z => hp1 z.2]
          · rw [if_neg (by simp [hv]), decide_eq_false fun z => hv z.1]
        have c2 : ∀ st, (fAnd (fTrue (fBin gGt (fName 6) (fName 1))) (fTrue (fBin gNotIn (fName 6) (fName 5)))) env st = .ok (decide (f < v ∧ v ∉ p)) st := fun st => by
          rw [ev_and (ev_true ((ev_bin (ev_name rfl) (ev_name rfl)).trans (gGt_int v f)))]
          by_cases hv : f < v
          · rw [if_pos (decide_eq_true hv), ev_true ((ev_bin (ev_name rfl) (ev_name rfl)).trans (gNotIn_tup v p))]
            by_cases hp1 : v ∈ p <;> simp [hv, hp1]
          · rw [if_neg (by simp [hv]), decide_eq_false fun z => hv z.1]
        have s1 : ∃ F2, fIfS (fAnd (fTrue (fBin gEq (fName 6) (fName 1))) (fTrue (fBin gGt (fCall1 gLen (fName 5)) (fC (.int 1))))) (fExpr (fMeth1 gAppend (fName 3) (fName 5))) fSkip env (stD b F1 G S1) = .next env (stD b F2 G S1) ∧ F2 = Fd ++ ((done ++ [v]).filter fun v => decide (v = f ∧ 1 < p.length)).map fun _ => p := by
          by_cases hc : v = f ∧ 1 < p.length
          · refine ⟨F1 ++ [p], ?_, by simp [F1, List.filter_append, hc]⟩
            rw [ex_if (c1 _), if_pos (decide_eq_true hc)]
            have := ex_expr (env := env) ((ev_meth1 (fo := fName 3) (fa := fName 5) (h := gAppend) (ev_name rfl) (seqL_ref (stD_found b F1 G S1)) (ev_name rfl)).trans (app_row p (stD_found b F1 G S1) hF1))
            rw [stD_setF] at this
            exact this
          · refine ⟨F1, ?_, ?_⟩
            · rw [ex_if (c1 _), if_neg (by rw [decide_eq_false hc]; decide)]; rfl
            · rw [List.filter_append, List.filter_cons_of_neg (by rw [decide_eq_false hc]; decide)]; simp [F1]
        obtain ⟨F2, s1, hF2⟩ := s1
        have s2 : ∃ S2, fIfS (fAnd (fTrue (fBin gGt (fName 6) (fName 1))) (fTrue (fBin gNotIn (fName 6) (fName 5)))) (fExpr (fMeth1 gAppend (fName 4) (fBin gAdd (fName 5) (fTup (fCons (fName 6) fNil))))) fSkip env (stD b F2 G S1) = .next env (stD b F2 G S2) ∧ S2 = Sk ++ ((done ++ [v]).filter fun v => decide (f < v ∧ v ∉ p)).map fun v => p ++ [v] := by
          by_cases hc : f < v ∧ v ∉ p
          · refine ⟨S1 ++ [p ++ [v]], ?_, ?_⟩
            · rw [ex_if (c2 _), if_pos (decide_eq_true hc)]
              have hadd : (fBin gAdd (fName 5) (fTup (fCons (fName 6) fNil))) env (stD b F2 G S1) = .ok (.v (rowD (p ++ [v]))) (stD b F2 G S1) := by
                refine (ev_bin (ev_name rfl) (ev_tup (ev_consV (ev_name rfl) ev_nil) (by simp))).trans ?_
                show (if (p.map D.int).length + 1 ≤ 1000000 then _ else _) = _
                rw [if_pos (by simp; omega)]
                simp [rowD]
              have := ex_expr (env := env) ((ev_meth1 (fo := fName 4) (h := gAppend) (ev_name rfl) (seqL_ref (stD_stk b F2 G S1)) hadd).trans (app_row (p ++ [v]) (stD_stk b F2 G S1) hS1))
              rw [stD_setS] at this
              exact this
            · rw [List.filter_append, show (List.filter (fun v => decide (f < v ∧ v ∉ p)) [v]) = [v] by simp [hc.1, hc.2]]; simp [S1]
          · refine ⟨S1, ?_, ?_⟩
            · rw [ex_if (c2 _), if_neg (by rw [decide_eq_false hc]; decide)]; rfl
            · rw [List.filter_append, List.filter_cons_of_neg (by rw [decide_eq_false hc]; decide)]; simp [S1]
        obtain ⟨S2, s2, hS2⟩ := s2
        refine ⟨env, stD b F2 G S2, .inl ?_, done ++ [v], todo, some (.int v), by rw [e1]; simp, rfl, rfl, by rw [hF2, hS2]⟩
        subst e4
        unfold L_law_all_rounds_1
        rw [ex_seq s1]
        exact s2)
    (ds.map .int) _ (stD b Fd G Sk) ⟨[], ds, none, rfl, rfl, rfl, by simp⟩
  have ht : todo = [] := by cases todo with
    | nil => rfl
    | cons a b => simp at q2
  subst ht q3 q4
  have : done = ds := by rw [q1]; simp
  subst this
  rw [k]; rfl
end K41

set_option Elab.async false
set_option linter.all false
set_option maxRecDepth 100000
set_option maxHeartbeats 4000000
set_option autoImplicit false
namespace K41
open PySem PySem.Spec PyProof.Rows L2 Fx

/-- what a stack may still cost -/
def wt (n : Nat) (Sk : List (List Int)) : Nat := (Sk.map fun p => (n + 1) ^ (n + 1 - p.length)).sum
theorem wt_app (n : Nat) (a b : List (List Int)) : wt n (a ++ b) = wt n a + wt n b := by
  unfold wt; rw [List.map_append, List.sum_append]
theorem wt_len (n : Nat) : ∀ a : List (List Int), a.length ≤ wt n a
  | [] => by simp [wt]
  | p :: a => by
    have ih := wt_len n a
    have : 0 < (n + 1) ^ (n + 1 - p.length) := Nat.pow_pos (by omega)
    unfold wt at ih ⊢
    simp only [List.map_cons, List.sum_cons, List.length_cons]; omega
theorem wt_map (n k : Nat) : ∀ ps : List (List Int), (∀ p ∈ ps, p.length = k) → wt n ps = ps.length * (n + 1) ^ (n + 1 - k)
  | [], _ => by simp [wt]
  | p :: ps, h => by
    have ih := wt_map n k ps fun q hq => h q (List.mem_cons_of_mem _ hq)
    have hp := h p List.mem_cons_self
    unfold wt at ih ⊢
    simp only [List.map_cons, List.sum_cons, List.length_cons, ih, hp, Nat.add_mul, Nat.one_mul]; omega
theorem two_filters (f g : Int → Bool) : ∀ l : List Int, (∀ x ∈ l, ¬ (f x = true ∧ g x = true)) → (l.filter f).length + (l.filter g).length ≤ l.length
  | [], _ => by simp
  | x :: l, h => by
    have ih := two_filters f g l fun y hy => h y (List.mem_cons_of_mem _ hy)
    have hx := h x List.mem_cons_self
    by_cases hf : f x = true
    · have hg : ¬ g x = true := fun z => hx ⟨hf, z⟩
      rw [List.filter_cons_of_pos hf, List.filter_cons_of_neg hg]; simp only [List.length_cons]; omega
    · rw [List.filter_cons_of_neg hf]
      by_cases hg : g x = true
      · rw [List.filter_cons_of_pos hg]; simp only [List.length_cons]; omega
      · rw [List.filter_cons_of_neg hg]; simp only [List.length_cons]; omega
theorem outs_nodup {E : E2} (h : E.Nodup) (s : Int) : (outs E s).Nodup := by
  unfold outs
  have h2 : (E.filter fun p => decide (p.1 = s)).Nodup := h.filter _
  unfold List.Nodup at h2 ⊢
  rw [List.pairwise_map]
  refine h2.imp_of_mem fun {a b} ha hb hab e => hab ?_
  have h1 := of_decide_eq_true (List.mem_filter.mp ha).2
  have h3 := of_decide_eq_true (List.mem_filter.mp hb).2
  exact Prod.ext (h1.trans h3.symm) e
theorem pth_snoc {R : Int → Int → Prop} {f : Int} {row : List Int} {u : Int} (h : Pth R f row u) : ∃ q, row = q ++ [u] := by
  cases h with
  | start => exact ⟨[], rfl⟩
  | step h t g n => exact ⟨_, rfl⟩
theorem pth_one {R : Int → Int → Prop} {f : Int} {row : List Int} {u w : Int} (h : Pth R f row u) (h' : Pth R f row w) : u = w := by
  obtain ⟨q, e⟩ := pth_snoc h
  obtain ⟨q', e'⟩ := pth_snoc h'
  rw [e] at e'
  have := congrArg List.getLast? e'
  simpa using this
theorem pth_bnd {n : Nat} {E : E2} (hE : EOk n E) {f : Int} (hf : 0 ≤ f ∧ f < n) {row : List Int} {u : Int} (h : Pth (rE E) f row u) : (∀ v ∈ row, 0 ≤ v ∧ v < n) ∧ row.length ≤ n := by
  have hb : ∀ v ∈ row, 0 ≤ v ∧ v < n := by
    induction h with
    | start => intro v hv; rw [List.mem_singleton.mp hv]; exact hf
    | @step row u v h t g m ih =>
      intro x hx
      rcases List.mem_append.mp hx with q | q
      · exact ih x q
      · rw [List.mem_singleton.mp q]; exact (hE.bnd _ t).2
  obtain ⟨l, e, _, hn, _⟩ := pth_lk h
  exact ⟨hb, nodup_len n row (by rw [e]; exact hn) hb⟩
/-- the search from one station, under way -/
structure Dfs (E : E2) (n : Nat) (f : Int) (B : Nat) (Fd0 Fd Sk : List (List Int)) : Prop where
  old : ∀ row ∈ Fd0, row ∈ Fd
  stk : ∀ p ∈ Sk, ∃ u, Pth (rE E) f p u
  fnd : ∀ row ∈ Fd, row ∈ Fd0 ∨ Round (rE E) f row
  all : ∀ row u, Pth (rE E) f row u → (∃ p ∈ Sk, p <+: row) ∨ (rE E u f → 1 < row.length → row ∈ Fd)
  bnd : Fd.length + wt n Sk ≤ B
theorem Dfs.next {E : E2} {n : Nat} {f : Int} {B : Nat} {Fd0 Fd Sk : List (List Int)} {p : List Int} {u : Int} (hE : EOk n E) (nd : E.Nodup) (hf : 0 ≤ f ∧ f < n) (I : Dfs E n f B Fd0 Fd (Sk ++ [p])) (hp : Pth (rE E) f p u) :
    Dfs E n f B Fd0 (Fd ++ ((outs E u).filter fun v => decide (v = f ∧ 1 < p.length)).map fun _ => p) (Sk ++ ((outs E u).filter fun v => decide (f < v ∧ v ∉ p)).map fun v => p ++ [v]) ∧
      wt n (Sk ++ ((outs E u).filter fun v => decide (f < v ∧ v ∉ p)).map fun v => p ++ [v]) < wt n (Sk ++ [p]) ∧ (outs E u).length ≤ n := by
  have hol : (outs E u).length ≤ n := nodup_len n _ (outs_nodup nd u) fun v hv => (hE.bnd _ ((mem_outs E u v).mp hv)).2
  obtain ⟨pb, pl⟩ := pth_bnd hE hf hp
  have h2 := two_filters (fun v => decide (v = f ∧ 1 < p.length)) (fun v => decide (f < v ∧ v ∉ p)) (outs E u) fun x _ ⟨a, b⟩ => by
    have a1 := (of_decide_eq_true a).1
    have b1 := (of_decide_eq_true b).1
    omega
  have hw : wt n (((outs E u).filter fun v => decide (f < v ∧ v ∉ p)).map fun v => p ++ [v]) = ((outs E u).filter fun v => decide (f < v ∧ v ∉ p)).length * (n + 1) ^ (n - p.length) := by
    rw [wt_map n (p.length + 1) _ (fun q hq => by
      obtain ⟨v, _, rfl⟩ := List.mem_map.mp hq
      simp), List.length_map, show n + 1 - (p.length + 1) = n - p.length by omega]
  have hwp : wt n [p] = (n + 1) * (n + 1) ^ (n - p.length) := by
    unfold wt
    simp only [List.map_cons, List.map_nil, List.sum_cons, List.sum_nil, Nat.add_zero]
    rw [show n + 1 - p.length = (n - p.length) + 1 by omega, Nat.pow_succ, Nat.mul_comm]
  have hX : 0 < (n + 1) ^ (n - p.length) := Nat.pow_pos (by omega)
  generalize (n + 1) ^ (n - p.length) = X at hw hwp hX
  generalize hc1 : ((outs E u).filter fun v => decide (v = f ∧ 1 < p.length)).length = c1 at h2
  generalize hc2 : ((outs E u).filter fun v => decide (f < v ∧ v ∉ p)).length = c2 at h2 hw
  have k1 : c1 ≤ c1 * X := Nat.le_mul_of_pos_right _ hX
  have k2 : c1 * X + c2 * X ≤ n * X := by
    rw [← Nat.add_mul]; exact Nat.mul_le_mul_right _ (by omega)
  have k3 : (n + 1) * X = n * X + X := by rw [Nat.add_mul, Nat.one_mul]
  have hb := I.bnd
  rw [wt_app, hwp] at hb
  refine ⟨⟨fun row h => List.mem_append_left _ (I.old row h), fun q hq => ?_, fun row hr => ?_, fun row w hr => ?_, ?_⟩, ?_, hol⟩
  · rcases List.mem_append.mp hq with z | z
    · exact I.stk q (List.mem_append_left _ z)
    · obtain ⟨v, hv, rfl⟩ := List.mem_map.mp z
      obtain ⟨v1, v2⟩ := List.mem_filter.mp hv
      obtain ⟨v3, v4⟩ := of_decide_eq_true v2
      exact ⟨v, .step hp ((mem_outs E u v).mp v1) v3 v4⟩
  · rcases List.mem_append.mp hr with z | z
    · exact I.fnd row z
    · obtain ⟨v, hv, rfl⟩ := List.mem_map.mp z
      obtain ⟨v1, v2⟩ := List.mem_filter.mp hv
      obtain ⟨v3, v4⟩ := of_decide_eq_true v2
      subst v3
      exact .inr ⟨u, hp, (mem_outs E u v).mp v1, v4⟩
  · rcases I.all row w hr with ⟨q, hq, hpre⟩ | h
    · rcases List.mem_append.mp hq with z | z
      · exact .inl ⟨q, List.mem_append_left _ z, hpre⟩
      · have := List.mem_singleton.mp z
        subst this
        rcases pth_next hr hp hpre with e | ⟨v, v1, v2, v3, v4⟩
        · subst e
          have := pth_one hr hp
          subst this
          exact .inr fun r1 r2 => List.mem_append_right _ (List.mem_map.mpr ⟨f, List.mem_filter.mpr ⟨(mem_outs E w f).mpr r1, decide_eq_true ⟨rfl, r2⟩⟩, rfl⟩)
        · exact .inl ⟨q ++ [v], List.mem_append_right _ (List.mem_map.mpr ⟨v, List.mem_filter.mpr ⟨(mem_outs E u v).mpr v2, decide_eq_true ⟨v3, v4⟩⟩, rfl⟩), v1⟩
    · exact .inr fun r1 r2 => List.mem_append_left _ (h r1 r2)
  · rw [wt_app, hw, List.length_append, List.length_map, hc1]; omega
  · rw [wt_app, wt_app, hw, hwp]; omega
theorem Dfs.start {E : E2} {n : Nat} {f : Int} {Fd : List (List Int)} : Dfs E n f (Fd.length + (n + 1) ^ n) Fd Fd [[f]] :=
  ⟨fun _ h => h, fun p hp => ⟨f, by rw [List.mem_singleton.mp hp]; exact .start⟩, fun _ h => .inl h, fun row u h => .inl ⟨[f], by simp, by
    obtain ⟨l, rfl, _⟩ := pth_lk h
    exact ⟨l, rfl⟩⟩, by simp [wt]⟩
theorem Dfs.fin {E : E2} {n : Nat} {f : Int} {B : Nat} {Fd0 Fd : List (List Int)} (I : Dfs E n f B Fd0 Fd []) (row : List Int) : row ∈ Fd ↔ row ∈ Fd0 ∨ Round (rE E) f row := by
  refine ⟨I.fnd row, ?_⟩
  rintro (h | ⟨u, u1, u2, u3⟩)
  · exact I.old row h
  · rcases I.all row u u1 with ⟨p, hp, _⟩ | h
    · simp at hp
    · exact h u2 u3
end K41

set_option Elab.async false
set_option linter.all false
set_option maxRecDepth 100000
set_option maxHeartbeats 4000000
set_option autoImplicit false
namespace K41
open PySem PySem.Spec PyProof.Rows L2 Fx

def muD (n K : Nat) (s : Store) : Nat := match s[K]? with
  | some (.lst xs) => (xs.map fun d => match d with | .tup l => (n + 1) ^ (n + 1 - l.length) | _ => 0).sum
  | _ => 0
theorem muD_eq (n : Nat) (b : Store) (Fd : List (List Int)) (G : Store) (Sk : List (List Int)) : muD n (b.length + 1 + G.length) (stD b Fd G Sk) = wt n Sk := by
  unfold muD wt
  rw [stD_stk]
  simp only
  rw [List.map_map]
  congr 1
  refine List.map_congr_left fun p _ => ?_
  simp [rowD]
theorem dfs_while {n : Nat} {E : E2} {b : Store} {a b0 : Nat} (hE : EOk n E) (nd : E.Nodup) (hO : OutAt b a b0 n E) (N : D) (G : Store) (f : Int) (hf : 0 ≤ f ∧ f < n) (Fd0 : List (List Int)) (B : Nat) (hB : B < 999000) (I0 : Dfs E n f B Fd0 Fd0 [[f]]) :
    ∃ Fd, fWhile (fTrue (fBin gNe (fName 4) (fLst fNil))) W_law_all_rounds_1 (evD N f a b.length (b.length + 1 + G.length) none none) (stD b Fd0 G [[f]]) = .next (evD N f a b.length (b.length + 1 + G.length) none none) (stD b Fd G []) ∧ Dfs E n f B Fd0 Fd [] := by
  have hsm := hE.small
  let e0 : Fx.Env := evD N f a b.length (b.length + 1 + G.length) none none
  obtain ⟨e', s', h1, Fd, rfl, rfl, I⟩ := fWhile_inv (c := fTrue (fBin gNe (fName 4) (fLst fNil))) (body := W_law_all_rounds_1) (e0 := e0) (st := stD b Fd0 G [[f]])
    (fun env s => ∃ Fd Sk, env = e0 ∧ s = stD b Fd G Sk ∧ Dfs E n f B Fd0 Fd Sk)
    (fun env s => ∃ Fd, env = e0 ∧ s = stD b Fd G [] ∧ Dfs E n f B Fd0 Fd []) (fun env s => muD n (b.length + 1 + G.length) s)
    ⟨Fd0, [[f]], rfl, rfl, I0⟩ (by
      rintro env s ⟨Fd, Sk, rfl, rfl, I⟩
      have hc : (fTrue (fBin gNe (fName 4) (fLst fNil))) e0 (stD b Fd G Sk) = .ok (!Sk.isEmpty) (stD b Fd G Sk) :=
        ev_true ((ev_bin (ev_name rfl) (ev_lst ev_nil (by simp))).trans (gNe_rows Sk (stD_stk b Fd G Sk)))
      rcases List.eq_nil_or_concat Sk with e | ⟨S', p, e⟩
      · subst e
        exact .inl ⟨_, hc, Fd, rfl, rfl, I⟩
      · have e' : Sk = S' ++ [p] := by rw [e]; simp
        clear e
        subst e'
        right
        rw [show (S' ++ [p]).isEmpty = false by simp] at hc
        obtain ⟨u, hp⟩ := I.stk p (by simp)
        obtain ⟨pb, pl⟩ := pth_bnd hE hf hp
        obtain ⟨q, rfl⟩ := pth_snoc hp
        obtain ⟨I2, w2, ol⟩ := I.next hE nd hf hp
        have hbn := I.bnd
        have hwl := wt_len n (S' ++ [q ++ [u]])
        simp only [List.length_append, List.length_cons, List.length_nil] at hwl
        have hstk : (stD b Fd G (S' ++ [q ++ [u]]))[b.length + 1 + G.length]? = some (.lst (S'.map rowD ++ [rowD (q ++ [u])])) := by
          rw [stD_stk]; simp
        have hpop := pop_last hstk
        rw [stD_setS] at hpop
        have p1 : fSet 5 (fMeth0 gPop (fName 4)) e0 (stD b Fd G (S' ++ [q ++ [u]])) = .next (evD N f a b.length (b.length + 1 + G.length) (some (rowD (q ++ [u]))) none) (stD b Fd G S') :=
          ex_set ((ev_meth0 (ev_name rfl) (seqL_ref hstk)).trans hpop)
        obtain ⟨u1, u2⟩ := pb u (by simp)
        obtain ⟨i, hi⟩ : ∃ i : Nat, u = (i : Int) := ⟨u.toNat, by omega⟩
        have hin : i < n := by omega
        have hrow := hO.row i hin
        rw [← hi] at hrow
        have hbi : b0 + i < b.length := (List.getElem?_eq_some_iff.mp hrow).1
        have hit : (fIt (fBin gIx (fName 2) (fBin gIx (fName 5) (fNeg (fC (.int 1)))))) (evD N f a b.length (b.length + 1 + G.length) (some (rowD (q ++ [u]))) none) (stD b Fd G S') = .ok ⟨(outs E u).map .int, Sq.at (b0 + i) ((outs E u).map .int)⟩ (stD b Fd G S') := by
          have ep : rowD (q ++ [u]) = .tup (q.map .int ++ [.int u]) := by simp [rowD]
          have x1 : (fBin gIx (fName 5) (fNeg (fC (.int 1)))) (evD N f a b.length (b.length + 1 + G.length) (some (rowD (q ++ [u]))) none) (stD b Fd G S') = .ok (.v (.int u)) (stD b Fd G S') := by
            refine (ev_bin (ev_name rfl) (ev_neg ev_c)).trans ?_
            rw [ep]; exact tup_last _ _
          have x2 : (fBin gIx (fName 2) (fBin gIx (fName 5) (fNeg (fC (.int 1))))) (evD N f a b.length (b.length + 1 + G.length) (some (rowD (q ++ [u]))) none) (stD b Fd G S') = .ok (.v (.ref (b0 + i))) (stD b Fd G S') := by
            have := ix_lst (st := stD b Fd G S') (n := a) (xs := refsD b0 n) (i := i) (by rw [stD_old _ _ _ _ hO.la]; exact hO.lst) (refsD_get hin)
            rw [← hi] at this
            exact (ev_bin (ev_name rfl) x1).trans this
          rw [ev_it x2]
          exact sq_ref (by rw [stD_old _ _ _ _ hbi]; exact hrow)
        have hr := rows_in b G N f a (q ++ [u]) (Sq.at (b0 + i) ((outs E u).map .int)) (fun Fd Sk => by
          show (stD b Fd G Sk)[b0 + i]? = _
          rw [stD_old _ _ _ _ hbi]; exact hrow) (by omega) (outs E u) Fd S' (by omega) (by omega)
        have hbody : W_law_all_rounds_1 e0 (stD b Fd G (S' ++ [q ++ [u]])) = .next (evD N f a b.length (b.length + 1 + G.length) (some (rowD (q ++ [u]))) none) (stD b (Fd ++ ((outs E u).filter fun v => decide (v = f ∧ 1 < (q ++ [u]).length)).map fun _ => q ++ [u]) G (S' ++ ((outs E u).filter fun v => decide (f < v ∧ v ∉ q ++ [u])).map fun v => q ++ [u] ++ [v])) := by
          unfold W_law_all_rounds_1
          rw [ex_seq p1, ex_for hit]
          exact hr
        refine ⟨_, _, _, hc, hbody, rfl, ⟨_, _, rfl, rfl, I2⟩, ?_⟩
        rw [muD_eq, muD_eq]
        exact w2)
  exact ⟨Fd, h1, I⟩
theorem pow_small {n : Nat} (h : n ≤ 6) : n * (n + 1) ^ n ≤ 705894 := by
  have : ∀ m : Fin 7, m.1 * (m.1 + 1) ^ m.1 ≤ 705894 := by decide
  exact this ⟨n, by omega⟩
theorem round_bnd {n : Nat} {E : E2} (hE : EOk n E) {f : Int} {row : List Int} (h : Round (rE E) f row) : (0 ≤ f ∧ f < n) ∧ (∀ v ∈ row, 0 ≤ v ∧ v < n) ∧ row.length ≤ n := by
  obtain ⟨u, u1, u2, _⟩ := h
  have hf := (hE.bnd _ u2).2
  exact ⟨hf, pth_bnd hE hf u1⟩
theorem F_rounds_eq {n : Nat} (tr : List Int) (E : E2) (st : Store) (hE : EOk n E) (nd : E.Nodup) (hn : tr.length = n) (h1 : 1 ≤ n) (h6 : n ≤ 6) :
    ∃ Fd : List (List Int), F_law_all_rounds [netD tr E] st = .ok (.o (.lst (Fd.map rowD))) st ∧ (∀ row, row ∈ Fd ↔ ∃ f, Round (rE E) f row) ∧ Fd.length ≤ 705894 := by
  have e : F_law_all_rounds [netD tr E] st = gc st (retOf (B_law_all_rounds [some (netD tr E), none, none, none, none, none, none] st)) := rfl
  let b : Store := stO st n E
  let a : Nat := st.length + n
  let L : Nat := b.length
  have hO : OutAt b a st.length n E := outAt_of st n E
  let e0 : Fx.Env := [some (netD tr E), none, some (.ref a), some (.ref L), none, none, none]
  have p1 : fPar 2 3 (fCons (fCall F_law_out (fCons (fName 0) fNil)) (fCons (fLst fNil) fNil)) [some (netD tr E), none, none, none, none, none, none] st = .next e0 (b ++ [.lst []]) := by
    have h : (fCall F_law_out (fCons (fName 0) fNil)) [some (netD tr E), none, none, none, none, none, none] st = .ok (.v (.ref (st.length + n))) (stO st n E) := by
      rw [ev_call (ev_consV (ev_name rfl) ev_nil) (F_out_eq tr E st hE hn h1)]
      exact stO_keep h1
    rw [ex_par (ev_consV h (ev_consO (ev_lst ev_nil (by simp)) ev_nil))]; rfl
  have hrng : (fRng1 (fCall1 gLen (fName 2))) e0 (b ++ [.lst []]) = .ok ⟨(rngI n).map .int, Sq.any⟩ (b ++ [.lst []]) := by
    have hla : (b ++ [O.lst []])[a]? = some (.lst (refsD st.length n)) := by
      rw [List.getElem?_append_left hO.la]; exact hO.lst
    have hl : (fCall1 gLen (fName 2)) e0 (b ++ [.lst []]) = .ok (.v (.int (n : Int))) (b ++ [.lst []]) := by
      rw [ev_call1 (ev_name rfl)]
      simp only [gLen, seqL_ref hla, refsD, List.length_map, List.length_range]
    rw [ev_rng1 hl (by have := hE.small; omega), rngD_eq]
  have hps := pow_small h6
  obtain ⟨e', s', k, done, todo, Fd, G, x, y, q1, q2, rfl, rfl, q5, q6⟩ := forL_inv (ok := Sq.any) (tg := tgN 1) (body := L_law_all_rounds_2) (e0 := e0)
    (fun rest env s => ∃ (done todo : List Int) (Fd : List (List Int)) (G : Store) (x y : Option D), rngI n = done ++ todo ∧ rest = todo.map .int ∧ env = [some (netD tr E), x, some (.ref a), some (.ref L), y, none, none] ∧ s = b ++ (.lst (Fd.map rowD) :: G) ∧ (∀ row, row ∈ Fd ↔ ∃ f ∈ done, Round (rE E) f row) ∧ Fd.length ≤ done.length * (n + 1) ^ n)
    (fun rest env s ⟨_, _, _, _, x, y, _, _, h, _⟩ => ⟨trivial, by rw [h]; rfl⟩)
    (fun d rest env s ⟨done, todo, Fd, G, x, y, g1, g2, g3, g4, g5, g6⟩ => by
      cases todo with
      | nil => simp at g2
      | cons f todo =>
        simp only [List.map_cons, List.cons.injEq] at g2
        obtain ⟨rfl, rfl⟩ := g2
        subst g3 g4
        have hfm : f ∈ rngI n := by rw [g1]; simp
        have hf := mem_rngI.mp hfm
        have hdl : done.length + (todo.length + 1) = n := by
          have := congrArg List.length g1
          simp [rngI] at this; omega
        have hd1 : (done.length + 1) * (n + 1) ^ n ≤ n * (n + 1) ^ n := Nat.mul_le_mul_right _ (by omega)
        rw [Nat.add_mul, Nat.one_mul] at hd1
        obtain ⟨Fd', w1, w2⟩ := dfs_while hE nd hO (netD tr E) G f hf Fd (Fd.length + (n + 1) ^ n) (by omega) Dfs.start
        refine ⟨[some (netD tr E), some (.int f), some (.ref a), some (.ref L), none, none, none], rfl, evD (netD tr E) f a b.length (b.length + 1 + G.length) none none, stD b Fd' G [], .inl ?_, done ++ [f], todo, Fd', G ++ [.lst []], _, _, by rw [g1]; simp, rfl, rfl, rfl, fun row => ?_, ?_⟩
        · unfold L_law_all_rounds_2
          have s1 : fSet 4 (fLst (fCons (fTup (fCons (fName 1) fNil)) fNil)) [some (netD tr E), some (.int f), some (.ref a), some (.ref L), none, none, none] (b ++ (.lst (Fd.map rowD) :: G)) = .next (evD (netD tr E) f a b.length (b.length + 1 + G.length) none none) (stD b Fd G [[f]]) := by
            rw [ex_setO (ev_lst (ev_consV (ev_tup (ev_consV (ev_name rfl) ev_nil) (by simp)) ev_nil) (by simp))]
            have hlen : (b ++ (O.lst (Fd.map rowD) :: G)).length = b.length + 1 + G.length := by simp; omega
            rw [hlen]
            simp [evD, stD, rowD, L]
          rw [ex_seq s1]; exact w1
        · rw [w2.fin row, g5 row]
          constructor
          · rintro (⟨g, hg, hr⟩ | hr)
            · exact ⟨g, List.mem_append_left _ hg, hr⟩
            · exact ⟨f, by simp, hr⟩
          · rintro ⟨g, hg, hr⟩
            rcases List.mem_append.mp hg with z | z
            · exact .inl ⟨g, z, hr⟩
            · rw [List.mem_singleton.mp z] at hr; exact .inr hr
        · have := w2.bnd
          simp only [List.length_append, List.length_cons, List.length_nil]
          rw [Nat.add_mul, Nat.one_mul]; omega)
    ((rngI n).map .int) e0 (b ++ [.lst []]) ⟨[], rngI n, [], [], none, none, rfl, rfl, rfl, rfl, by simp, by simp⟩
  have ht : todo = [] := by cases todo with
    | nil => rfl
    | cons a b => simp at q2
  subst ht
  have : done = rngI n := by rw [q1]; simp
  subst this
  refine ⟨Fd, ?_, fun row => ?_, ?_⟩
  · have hs : scope e0 [some (netD tr E), x, some (.ref a), some (.ref L), y, none, none] = e0 := rfl
    rw [hs] at k
    rw [e]
    unfold B_law_all_rounds
    rw [ex_seq p1, ex_seq ((ex_for hrng).trans k), ex_ret (ev_name rfl)]
    have hg : (st ++ ((rowsO n E ++ [.lst (refsD st.length n)]) ++ (O.lst (Fd.map rowD) :: G)))[L]? = some (.lst (Fd.map rowD)) := by
      rw [← List.append_assoc]
      show (b ++ _)[b.length]? = _
      rw [List.getElem?_append_right (by omega)]; simp
    have := gc_ref hg (show st.length ≤ L by simp [L, b]) (obl_rows Fd)
    rw [← List.append_assoc] at this
    exact this
  · rw [q5 row]
    exact ⟨fun ⟨f, _, h⟩ => ⟨f, h⟩, fun ⟨f, h⟩ => ⟨f, mem_rngI.mpr (round_bnd hE h).1, h⟩⟩
  · have : (rngI n).length = n := by simp [rngI]
    rw [this] at q6; omega
end K41

set_option Elab.async false
set_option linter.all false
set_option maxRecDepth 100000
set_option maxHeartbeats 4000000
set_option autoImplicit false
namespace K41
open PySem PySem.Spec PyProof.Rows L2 Fx

theorem gIn_tup {st : Store} (s : Int) (L : List Int) : gIn (.v (.int s)) (.v (.tup (L.map .int))) st = .ok (.v (.bl (decide (s ∈ L)))) st := by
  unfold gIn; rw [inP_tup]
theorem gEq_o_ints {st : Store} (L : List Int) : gEq (.o (.lst (L.map .int))) (.o (.lst [])) st = .ok (.v (.bl L.isEmpty)) st := by
  have e : R.toP st 60 (.o (.lst (L.map .int))) = some (.list (L.map PyData.int)) := by
    show (List.mapM (D.toP st 60) (L.map D.int)).map PyData.list = _
    rw [mapM_ints]; rfl
  have e2 : R.toP st 60 (.o (.lst [])) = some (.list []) := rfl
  simp only [gEq, e, e2]
  cases L <;> rfl
open Classical in
theorem due_sem {n : Nat} {E : E2} {Fd : List (List Int)} {s : Int} (nl : ∀ p ∈ E, p.1 ≠ p.2) (hF : ∀ row, row ∈ Fd ↔ ∃ f, Round (rE E) f row) :
    (Rch (rE E) s s ↔ Fd.filter (fun r => decide (s ∈ r)) ≠ []) ∧ ∀ o, (Rch (rE (bareE E o)) s s ↔ ∃ r ∈ Fd.filter (fun r => decide (s ∈ r)), o ∉ r) := by
  have nl1 : ∀ a, ¬ rE E a a := fun a h => nl _ h rfl
  constructor
  · rw [rch_round nl1 s]
    constructor
    · rintro ⟨f, row, h1, h2⟩ e
      have : row ∈ Fd.filter (fun r => decide (s ∈ r)) := List.mem_filter.mpr ⟨(hF row).mpr ⟨f, h1⟩, decide_eq_true h2⟩
      rw [e] at this; simp at this
    · intro h
      obtain ⟨row, hr⟩ := List.exists_mem_of_ne_nil _ h
      obtain ⟨r1, r2⟩ := List.mem_filter.mp hr
      obtain ⟨f, hf⟩ := (hF row).mp r1
      exact ⟨f, row, hf, of_decide_eq_true r2⟩
  · intro o
    have e : rE (bareE E o) = fun a b => rE E a b ∧ a ≠ o ∧ b ≠ o := by
      funext a b
      exact propext (mem_bare E o a b)
    rw [e, rch_round (fun a h => nl1 a h.1) s]
    constructor
    · rintro ⟨f, row, h1, h2⟩
      obtain ⟨a1, a2⟩ := (round_without f o row).mp h1
      exact ⟨row, List.mem_filter.mpr ⟨(hF row).mpr ⟨f, a1⟩, decide_eq_true h2⟩, a2⟩
    · rintro ⟨row, hr, ho⟩
      obtain ⟨r1, r2⟩ := List.mem_filter.mp hr
      obtain ⟨f, hf⟩ := (hF row).mp r1
      exact ⟨f, row, (round_without f o row).mpr ⟨hf, ho⟩, of_decide_eq_true r2⟩
open Classical in
theorem F_due_eq {n : Nat} {tr : List Int} {E : E2} {st : Store} {q : Nat} {Fd : List (List Int)} {s : Int} (hE : EOk n E) (hn : tr.length = n) (nl : ∀ p ∈ E, p.1 ≠ p.2) (hq : st[q]? = some (.lst (Fd.map rowD))) (hF : ∀ row, row ∈ Fd ↔ ∃ f, Round (rE E) f row) (hl : Fd.length ≤ 705894) :
    F_law_due [netD tr E, .ref q, .int s] st = .ok (.v (gatesD n E s)) st := by
  have hsm := hE.small
  have hql : q < st.length := (List.getElem?_eq_some_iff.mp hq).1
  let e0 : Fx.Env := [some (netD tr E), some (.ref q), some (.int s), none, none, none, none]
  have e : F_law_due [netD tr E, .ref q, .int s] st = gc st (retOf (B_law_due e0 st)) := rfl
  let mine : List (List Int) := Fd.filter fun r => decide (s ∈ r)
  have hml : mine.length ≤ 705894 := Nat.le_trans (List.length_filter_le _ _) hl
  obtain ⟨sem1, sem2⟩ := due_sem (n := n) (s := s) nl hF
  -- mine
  have hit : (fIt (fName 1)) e0 st = .ok ⟨Fd.map rowD, Sq.at q (Fd.map rowD)⟩ st := (ev_it (ev_name rfl)).trans (sq_ref hq)
  have hc := compL_pure (ok := Sq.at q (Fd.map rowD)) (st := st) hq (tg := tgN 5) (tt := fTrue (fBin gIn (fName 2) (fName 5))) (elt := fName 5) (e0 := wipeE e0 [5]) (fun d => match d with | .tup l => decide (D.int s ∈ l) | _ => false) id (Fd.map rowD) [] (fun d hd => by
    obtain ⟨r, _, rfl⟩ := List.mem_map.mp hd
    refine ⟨e0.set 5 (some (rowD r)), rfl, ?_, fun _ => ev_name rfl⟩
    have h := ev_true ((ev_bin (fa := fName 2) (fb := fName 5) (env := e0.set 5 (some (rowD r))) (st := st) (ev_name rfl) (ev_name rfl)).trans (gIn_tup s r))
    rw [h]
    congr 1
    show _ = decide (D.int s ∈ r.map D.int)
    rw [decide_eq_decide]
    simp) (by simp; omega)
  have e3 : ([] ++ ((Fd.map rowD).filter fun d => match d with | .tup l => decide (D.int s ∈ l) | _ => false).map id) = mine.map rowD := by
    rw [List.nil_append, List.map_id, List.filter_map]
    congr 1
    refine List.filter_congr fun r _ => ?_
    show decide (D.int s ∈ r.map D.int) = decide (s ∈ r)
    rw [decide_eq_decide]
    simp
  rw [e3] at hc
  have p1 := ex_setO (k := 3) ((ev_comp (tg := tgN 5) (tt := fTrue (fBin gIn (fName 2) (fName 5))) (el := fName 5) (own := [5]) hit).trans hc)
  let s1 : Store := st ++ [.lst (mine.map rowD)]
  let e1 : Fx.Env := [some (netD tr E), some (.ref q), some (.int s), some (.ref st.length), none, none, none]
  have hg : s1[st.length]? = some (.lst (mine.map rowD)) := by show (st ++ _)[_]? = _; simp
  have c1 : (fTrue (fBin gEq (fName 3) (fLst fNil))) e1 s1 = .ok mine.isEmpty s1 := ev_true ((ev_bin (ev_name rfl) (ev_lst ev_nil (by simp))).trans (gEq_rows mine hg))
  rw [e]
  unfold B_law_due gatesD
  rw [ex_seq p1]
  show gc st (retOf (fSeq _ _ e1 s1)) = _
  by_cases hr : Rch (rE E) s s
  · have hne : mine ≠ [] := sem1.mp hr
    have hem : mine.isEmpty = false := by
      cases h : mine with
      | nil => exact absurd h hne
      | cons a l => rfl
    rw [hem] at c1
    rw [if_pos hr, ex_seq (e1 := e1) (st1 := s1) (by rw [ex_if c1]; rfl)]
    have hrng : (fRng1 (fCall1 gLen (fBin gIx (fName 0) (fC (.int 0))))) e1 s1 = .ok ⟨(rngI n).map .int, Sq.any⟩ s1 := by
      rw [ev_rng1 (len_net (tr := tr) (E := E) rfl) (by omega), hn, rngD_eq]
    have hc2 := compL_pure (ok := Sq.any) (st := s1) trivial (tg := tgN 6) (tt := fTrue (fBin gNe (fName 6) (fName 2))) (elt := fName 6) (e0 := wipeE e1 [6]) (fun d => match d with | .int v => !decide (v = s) | _ => false) id ((rngI n).map .int) [] (fun d hd => by
      obtain ⟨v, _, rfl⟩ := List.mem_map.mp hd
      exact ⟨e1.set 6 (some (.int v)), rfl, ev_true ((ev_bin (ev_name rfl) (ev_name rfl)).trans (gNe_int v s)), fun _ => ev_name rfl⟩) (by simp [rngI]; omega)
    let oth : List Int := (rngI n).filter fun v => !decide (v = s)
    have e4 : ([] ++ (((rngI n).map D.int).filter fun d => match d with | .int v => !decide (v = s) | _ => false).map id) = oth.map .int := by
      rw [List.nil_append, List.map_id, List.filter_map]; rfl
    rw [e4] at hc2
    have p2 := ex_setO (k := 4) ((ev_comp (tg := tgN 6) (tt := fTrue (fBin gNe (fName 6) (fName 2))) (el := fName 6) (own := [6]) hrng).trans hc2)
    have hs1l : s1.length = st.length + 1 := by simp [s1]
    let s2 : Store := s1 ++ [.lst (oth.map .int)]
    let e2 : Fx.Env := [some (netD tr E), some (.ref q), some (.int s), some (.ref st.length), some (.ref (st.length + 1)), none, none]
    have hg2 : s2[st.length]? = some (.lst (mine.map rowD)) := by
      show (s1 ++ _)[_]? = _
      rw [List.getElem?_append_left (by omega)]; exact hg
    have hg3 : s2[st.length + 1]? = some (.lst (oth.map .int)) := by
      show (s1 ++ _)[_]? = _
      rw [← hs1l]; simp
    have hit2 : (fIt (fName 4)) e2 s2 = .ok ⟨oth.map .int, Sq.at (st.length + 1) (oth.map .int)⟩ s2 := (ev_it (ev_name rfl)).trans (sq_ref hg3)
    have hol : oth.length ≤ n := Nat.le_trans (List.length_filter_le _ _) (by simp [rngI])
    have hc3 := compL_pure (ok := Sq.at (st.length + 1) (oth.map .int)) (st := s2) hg3 (tg := tgN 6) (tt := fTrue (fBin gEq (fComp (fIt (fName 3)) (tgN 5) (fTrue (fBin gNotIn (fName 6) (fName 5))) (fC (.int 1)) [5]) (fLst fNil))) (elt := fName 6) (e0 := wipeE e2 [6])
      (fun d => match d with | .int o => !decide (Rch (rE (bareE E o)) s s) | _ => false) id (oth.map .int) [] (fun d hd => by
      obtain ⟨o, _, rfl⟩ := List.mem_map.mp hd
      refine ⟨e2.set 6 (some (.int o)), rfl, ?_, fun _ => ev_name rfl⟩
      have hit3 : (fIt (fName 3)) (e2.set 6 (some (.int o))) s2 = .ok ⟨mine.map rowD, Sq.at st.length (mine.map rowD)⟩ s2 := (ev_it (ev_name rfl)).trans (sq_ref hg2)
      have hc4 := compL_pure (ok := Sq.at st.length (mine.map rowD)) (st := s2) hg2 (tg := tgN 5) (tt := fTrue (fBin gNotIn (fName 6) (fName 5))) (elt := fC (.int 1)) (e0 := wipeE (e2.set 6 (some (.int o))) [5]) (fun d => match d with | .tup l => !decide (D.int o ∈ l) | _ => false) (fun _ => .int 1) (mine.map rowD) [] (fun d hd => by
        obtain ⟨r, _, rfl⟩ := List.mem_map.mp hd
        refine ⟨(e2.set 6 (some (.int o))).set 5 (some (rowD r)), rfl, ?_, fun _ => rfl⟩
        have h := ev_true ((ev_bin (fa := fName 6) (fb := fName 5) (env := (e2.set 6 (some (.int o))).set 5 (some (rowD r))) (st := s2) (ev_name rfl) (ev_name rfl)).trans (gNotIn_tup o r))
        rw [h]
        refine congrArg (fun b => Out.ok (!b) s2) (?_ : decide (o ∈ r) = decide (D.int o ∈ r.map D.int))
        rw [decide_eq_decide]
        simp) (by simp; omega)
      let away : List (List Int) := mine.filter fun r => !decide (o ∈ r)
      have e5 : ([] ++ ((mine.map rowD).filter fun d => match d with | .tup l => !decide (D.int o ∈ l) | _ => false).map fun _ => D.int 1) = (away.map fun _ => (1 : Int)).map .int := by
        rw [List.nil_append, List.filter_map, List.map_map, List.map_map]
        have : mine.filter ((fun d => match d with | .tup l => !decide (D.int o ∈ l) | _ => false) ∘ rowD) = away := by
          refine List.filter_congr fun r _ => ?_
          show (!decide (D.int o ∈ r.map D.int)) = !decide (o ∈ r)
          refine congrArg (fun b : Bool => !b) ?_
          rw [decide_eq_decide]
          simp
        rw [this]; rfl
      rw [e5] at hc4
      have h := ev_true ((ev_bin ((ev_comp (tg := tgN 5) (tt := fTrue (fBin gNotIn (fName 6) (fName 5))) (el := fC (.int 1)) (own := [5]) hit3).trans hc4) (ev_lst ev_nil (by simp))).trans (gEq_o_ints _))
      rw [h]
      refine congrArg (fun b => Out.ok b s2) (?_ : _ = !decide (Rch (rE (bareE E o)) s s))
      have hs2 := sem2 o
      by_cases hb : Rch (rE (bareE E o)) s s
      · obtain ⟨r, r1, r2⟩ := hs2.mp hb
        have : r ∈ away := List.mem_filter.mpr ⟨r1, by simp [r2]⟩
        rw [decide_eq_true hb]
        cases h : away with
        | nil => rw [h] at this; simp at this
        | cons a l => rfl
      · rw [decide_eq_false hb]
        cases h : away with
        | nil => rfl
        | cons a l =>
          exfalso
          have ha : a ∈ away := by rw [h]; simp
          obtain ⟨a1, a2⟩ := List.mem_filter.mp ha
          exact hb (hs2.mpr ⟨a, a1, by simpa using a2⟩)) (by simp; omega)
    have e6 : ([] ++ ((oth.map D.int).filter fun d => match d with | .int o => !decide (Rch (rE (bareE E o)) s s) | _ => false).map id) = (gatesL n E s).map .int := by
      rw [List.nil_append, List.map_id, List.filter_map]
      refine congrArg (List.map D.int) ?_
      show ((rngI n).filter _).filter _ = (rngI n).filter _
      rw [List.filter_filter]
      refine List.filter_congr fun o _ => ?_
      unfold gp
      show (!decide (Rch (rE (bareE E o)) s s) && !decide (o = s)) = _
      by_cases h1 : o = s <;> simp [h1]
    rw [e6] at hc3
    have hret := ev_tuple ((ev_comp (tg := tgN 6) (el := fName 6) (own := [6]) hit2).trans hc3)
    rw [ex_seq p2]
    have he2 : e1.set 4 (some (.ref s1.length)) = e2 := by rw [hs1l]; rfl
    rw [he2]
    show gc st (retOf (fRet _ e2 s2)) = _
    rw [ex_ret hret]
    have : s2 = st ++ [.lst (mine.map rowD), .lst (oth.map .int)] := by simp [s2, s1]
    rw [this]
    exact gc_new (bl_tints _)
  · have hem : mine.isEmpty = true := by
      have := mt sem1.mpr hr
      have h2 : mine = [] := Classical.byContradiction this
      rw [h2]; rfl
    rw [hem] at c1
    rw [if_neg hr, ex_seqR (r := .v .non) (st1 := s1) (by rw [ex_if c1]; rfl)]
    exact gc_new .non
end K41

set_option Elab.async false
set_option linter.all false
set_option maxRecDepth 100000
set_option maxHeartbeats 4000000
set_option autoImplicit false
namespace K41
open PySem PySem.Spec PyProof.Rows L2 Fx

open Classical in
noncomputable def gatesP (n : Nat) (E : E2) (s : Int) : PyData := if Rch (rE E) s s then .tuple ((gatesL n E s).map .int) else .none
theorem gates_toP {st : Store} {k : Nat} (n : Nat) (E : E2) (s : Int) : D.toP st (k + 2) (gatesD n E s) = some (gatesP n E s) := by
  unfold gatesD gatesP
  split
  · rw [D.toP, mapM_ints]; rfl
  · rfl
theorem gatesL_bnd {n : Nat} {E : E2} (h : n < 60) (s : Int) : (∀ v ∈ gatesL n E s, 0 ≤ v ∧ v < 100) ∧ (gatesL n E s).length ≤ n := by
  constructor
  · intro v hv
    have := mem_rngI.mp (List.mem_filter.mp hv).1
    omega
  · exact Nat.le_trans (List.length_filter_le _ _) (by simp [rngI])
theorem gates_show {n : Nat} {E : E2} (h : n < 60) (s : Int) : (gatesP n E s).showable = true ∧ Gd 1000 (gatesP n E s).shown := by
  obtain ⟨b1, b2⟩ := gatesL_bnd (E := E) h s
  unfold gatesP
  split
  · exact ⟨by simp only [PyData.showable, show_ints b1], gd_mono (gd_ints b1) (by omega)⟩
  · exact ⟨rfl, by decide +kernel, by decide +kernel⟩
theorem two_show {n : Nat} {E : E2} (h : n < 60) (s : Int) : (PyData.list [gatesP n E s, gatesP n E s]).showable = true ∧ Gd 1000000 (PyData.list [gatesP n E s, gatesP n E s]).shown := by
  obtain ⟨w1, w3⟩ := gates_show (E := E) h s
  constructor
  · simp only [PyData.showable, PyData.showableAll, w1, Bool.and_self]
  · have e : (PyData.list [gatesP n E s, gatesP n E s]).shown = listText [(gatesP n E s).shown, (gatesP n E s).shown] := by
      simp only [PyData.shown, PyData.shownAll]
    rw [e]
    have g := gd_list (k := 1000) (ts := [(gatesP n E s).shown, (gatesP n E s).shown]) fun t ht => by
      simp only [List.mem_cons, List.not_mem_nil, or_false] at ht
      rcases ht with e | e <;> (rw [e]; exact w3)
    exact gd_mono g (by simp)
theorem two_toP {st : Store} (n : Nat) (E : E2) (s : Int) : R.toP st 60 (.o (.lst [gatesD n E s, gatesD n E s])) = some (.list [gatesP n E s, gatesP n E s]) := by
  show (List.mapM (D.toP st 60) [gatesD n E s, gatesD n E s]).map PyData.list = _
  rw [List.mapM_cons, List.mapM_cons, gates_toP]; rfl
theorem gNe_strs {st : Store} {k : Nat} {x : Str} (g : Gd k x) : gNe (.v (.str x)) (.v (.str x)) st = .ok (.v (.bl false)) st := by
  have e : R.toP st 60 (.v (.str x)) = some (.str x) := by
    show D.toP st 60 (.str x) = _
    rw [D.toP, if_pos g.ok]
  simp [gNe, e, PyData.eqv]
theorem repr_gates {st : Store} {f : FE} {env : Fx.Env} {n : Nat} {E : E2} {s : Int} (h : n < 60) (hf : f env st = .ok (.v (gatesD n E s)) st) : (fCall1 gRepr f) env st = .ok (.v (.str (gatesP n E s).shown)) st := by
  obtain ⟨w1, w2⟩ := gates_show (E := E) h s
  exact (ev_call1 hf).trans (repr_ok (gates_toP (k := 58) n E s) w1 (gd_mono w2 (by decide)))
theorem or_f {c c' : FB} {env : Fx.Env} {st st1 : Store} (h : c env st = .ok false st1) : fOr c c' env st = c' env st1 := by rw [ev_or h]; rfl
theorem bl_gates {k n : Nat} {E : E2} {s : Int} : Bl k (gatesD n E s) := by
  unfold gatesD
  split
  · exact bl_tints _
  · exact .non
abbrev evI (N S : D) (nm : Bool) (L : Nat) (kn : D) (x4 x7 x8 : Option D) : Fx.Env := [some (.ref 1), some N, some (.bl nm), some S, x4, some (.ref L), some kn, x7, x8, none]
theorem right_eq {n : Nat} {tr : List Int} {E : E2} {st : Store} (b : Bag st) (hN : NOk n tr E) (h1 : 1 ≤ n) (h6 : n ≤ 6) (nd : E.Nodup) (nl : ∀ p ∈ E, p.1 ≠ p.2) (nm : Bool) :
    ∃ st', F_law_is_right [.ref 1, netD tr E, .bl nm] st = .ok (.v (.bl true)) st' ∧ Sx st st' := by
  have two := b.two
  have hE := hN.eok
  have hl := hN.len
  have hsm := hE.small
  let e0 : Fx.Env := [some (.ref 1), some (netD tr E), some (.bl nm), none, none, none, none, none, none, none]
  have e : F_law_is_right [.ref 1, netD tr E, .bl nm] st = gc st (retOf (B_law_is_right e0 st)) := rfl
  obtain ⟨Fd, r1, r2, r3⟩ := F_rounds_eq tr E st hE nd hl h1 h6
  obtain ⟨v1, v2⟩ := net_show hN
  let kn : D := .str (netP tr E).shown
  let fo : O := .lst (Fd.map rowD)
  have p1 : fPar 5 6 (fCons (fCall F_law_all_rounds (fCons (fName 1) fNil)) (fCons (fCall1 gRepr (fName 1)) fNil)) e0 st = .next [some (.ref 1), some (netD tr E), some (.bl nm), none, none, some (.ref st.length), some kn, none, none, none] (st ++ [fo]) := by
    rw [ex_par (ev_consO (ev_callS (ev_consV (ev_name rfl) ev_nil) r1) (ev_consV ((ev_call1 (ev_name rfl)).trans (repr_ok (net_toP tr E) v1 v2)) ev_nil))]; rfl
  let e1 : Fx.Env := [some (.ref 1), some (netD tr E), some (.bl nm), none, none, some (.ref st.length), some kn, none, none, none]
  have nx1 : Nx st [fo] (st ++ [fo]) := ⟨st, rfl, Sx.refl b⟩
  have hsrc : (fIt (fBin gIx (fName 1) (fC (.int 0)))) e1 (st ++ [fo]) = .ok ⟨tr.map .int, Sq.any⟩ (st ++ [fo]) := (ev_it (ixN0 (tr := tr) (E := E) rfl)).trans rfl
  obtain ⟨out, s2, q2, nx2, q4, q5⟩ := compL_all (ok := Sq.any) (tg := tgN 9) (elt := fBin gAdd (fC (.int 1)) (fCall F_law_draw (fCons (fName 0) (fCons (fC (.int 4)) fNil)))) (e0 := wipeE e1 [9])
    (Nx st [fo]) (fun v => ∃ j, v = D.int j ∧ (0 ≤ j ∧ j < 100)) (fun s h => trivial) (tr.map .int) [] (st ++ [fo]) (fun d hd s h => by
      obtain ⟨r, s3, r1, r2, r3⟩ := draw_nx (env := e1.set 9 (some d)) (fb := fName 0) (fm := fC (.int 4)) two h (ev_name rfl) ev_c (by decide) (by decide)
      exact ⟨e1.set 9 (some d), .int (1 + r), s3, rfl, (ev_bin ev_c r1).trans (g_add _ _), r3, 1 + r, rfl, by omega⟩) (by simp; omega) nx1 (by simp)
  obtain ⟨T, rfl, hT⟩ := lift_ints out q4
  have hTl : T.length = n := by
    simp only [List.length_map, List.length_nil, Nat.zero_add] at q5
    rw [q5]; exact hl
  have p2 := ex_set (k := 3) (ev_tup (ev_consV (ev_tuple ((ev_comp hsrc).trans q2)) (ev_consV (ixN1 (i := 1) (tr := tr) (E := E) rfl) ev_nil)) (by simp))
  have hq : ∀ s, Nx st [fo] s → s[st.length]? = some (.lst (Fd.map rowD)) := fun s h => by have := h.get 0; simpa using this
  have due : ∀ (s : Store) (env : Fx.Env) (k : Int), Nx st [fo] s → env[1]? = some (some (netD tr E)) → env[5]? = some (some (.ref st.length)) → env[4]? = some (some (.int k)) → (fCall F_law_due (fCons (fName 1) (fCons (fName 5) (fCons (fName 4) fNil)))) env s = .ok (.v (gatesD n E k)) s := fun s env k h a1 a5 a4 =>
    ev_callS (ev_consV (ev_name a1) (ev_consV (ev_name a5) (ev_consV (ev_name a4) ev_nil))) (F_due_eq hE hl nl (hq s h) r2 r3)
  let ev : Option D → Option D → Option D → Fx.Env := evI (netD tr E) (netD T E) nm st.length kn
  have hlen : ∀ x y z, (fCall1 gLen (fBin gIx (fName 1) (fC (.int 0)))) (ev x y z) s2 = .ok (.v (.int (n : Int))) s2 := fun x y z => by
    rw [ev_call1 (ixN0 (tr := tr) (E := E) rfl)]
    simp [gLen, hl]
  have hrng : (fRng1 (fCall1 gLen (fBin gIx (fName 1) (fC (.int 0))))) (ev none none none) s2 = .ok ⟨(rngI n).map .int, Sq.any⟩ s2 := by
    rw [ev_rng1 (hlen _ _ _) (by omega), rngD_eq]
  obtain ⟨e', s', k3, ⟨x, y, z, rfl⟩, rfl, _⟩ := forL_inv (ok := Sq.any) (tg := tgN 4) (body := L_law_is_right_1) (e0 := ev none none none)
    (fun rest env s => (∃ x y z, env = ev x y z) ∧ s = s2 ∧ ∀ d ∈ rest, ∃ i : Int, d = .int i ∧ (0 ≤ i ∧ i < n)) (fun rest env s ⟨⟨x, y, z, h⟩, _⟩ => ⟨trivial, by rw [h]; rfl⟩)
    (fun d rest env s ⟨⟨x, y, z, h⟩, hs, hd⟩ => by
      subst h hs
      obtain ⟨i, rfl, hi⟩ := hd d List.mem_cons_self
      refine ⟨ev (some (.int i)) none none, rfl, ev (some (.int i)) (some (gatesD n E i)) (some (gatesD n E i)), s, .inl ?_, ⟨_, _, _, rfl⟩, rfl, fun d hd' => hd d (List.mem_cons_of_mem _ hd')⟩
      have a1 := ex_set (k := 7) (due s (ev (some (.int i)) none none) i nx2 rfl rfl rfl)
      have c8 : (fIf (fTrue (fName 2)) (fCallK F_gates [1, 0] (fCons (fName 4) (fCons (fName 1) fNil))) (fCall F_gates (fCons (fName 1) (fCons (fName 4) fNil)))) (ev (some (.int i)) (some (gatesD n E i)) none) s = .ok (.v (gatesD n E i)) s := by
        rw [ev_if (b := nm) (ev_true (ev_name rfl))]
        cases nm with
        | true => exact ev_callK (ev_consV (ev_name rfl) (ev_consV (ev_name rfl) ev_nil)) (F_gates_eq tr E i s hE hl)
        | false => exact ev_callS (ev_consV (ev_name rfl) (ev_consV (ev_name rfl) ev_nil)) (F_gates_eq tr E i s hE hl)
      have a2 := ex_set (k := 8) c8
      let e8 : Fx.Env := ev (some (.int i)) (some (gatesD n E i)) (some (gatesD n E i))
      obtain ⟨t1, t2⟩ := two_show (E := E) hsm i
      have g1 : (fBin gNe (fCall1 gRepr (fLst (fCons (fName 8) (fCons (fCall F_gates (fCons (fName 3) (fCons (fName 4) fNil))) fNil)))) (fCall1 gRepr (fLst (fCons (fName 7) (fCons (fName 7) fNil))))) e8 s = .ok (.v (.bl false)) s :=
        (ev_bin ((ev_call1 (ev_lst (ev_consV (ev_name rfl) (ev_consV (ev_callS (ev_consV (ev_name rfl) (ev_consV (ev_name rfl) ev_nil)) (F_gates_eq T E i s hE hTl)) ev_nil)) (by simp))).trans (repr_ok (two_toP n E i) t1 t2))
          ((ev_call1 (ev_lst (ev_consV (ev_name rfl) (ev_consV (ev_name rfl) ev_nil)) (by simp))).trans (repr_ok (two_toP n E i) t1 t2))).trans (gNe_strs t2)
      have g2 : (fBin gNe (fCall1 gRepr (fCall F_law_gates (fCons (fName 1) (fCons (fName 4) fNil)))) (fCall1 gRepr (fName 7))) e8 s = .ok (.v (.bl false)) s :=
        (ev_bin (repr_gates hsm (ev_callS (ev_consV (ev_name rfl) (ev_consV (ev_name rfl) ev_nil)) (F_lgates_eq tr E i s hE hl hi))) (repr_gates hsm (ev_name rfl))).trans (gNe_strs (gates_show (E := E) hsm i).2)
      unfold L_law_is_right_1
      rw [ex_seq a1]
      show fSeq _ _ (ev (some (.int i)) (some (gatesD n E i)) none) s = _
      rw [ex_seq a2]
      show fIfS _ _ _ e8 s = _
      rw [ex_if ((or_f (ev_true g1)).trans (ev_true g2))]; rfl)
    ((rngI n).map .int) (ev none none none) s2 ⟨⟨_, _, _, rfl⟩, rfl, fun d hd => by
      obtain ⟨v, hv, rfl⟩ := List.mem_map.mp hd
      exact ⟨v, rfl, mem_rngI.mp hv⟩⟩
  have hsc : scope (ev none none none) (ev x y z) = ev none none none := rfl
  rw [hsc] at k3
  obtain ⟨r, s3, d1, d2, nx3⟩ := draw_nx (env := ev none none none) (fb := fName 0) (fm := fCall1 gLen (fBin gIx (fName 1) (fC (.int 0)))) two nx2 (ev_name rfl) (hlen _ _ _) (by omega) (by omega)
  have p4 := ex_set (k := 4) d1
  let e9 : Fx.Env := ev (some (.int r)) none none
  have f1 : (fBin gEq (fCall1 gRepr (fCall F_gates (fCons (fName 1) (fCons (fName 4) fNil)))) (fCall1 gRepr (fCall F_law_due (fCons (fName 1) (fCons (fName 5) (fCons (fName 4) fNil)))))) e9 s3 = .ok (.v (.bl true)) s3 :=
    (ev_bin (repr_gates hsm (ev_callS (ev_consV (ev_name rfl) (ev_consV (ev_name rfl) ev_nil)) (F_gates_eq tr E r s3 hE hl))) (repr_gates hsm (due s3 e9 r nx3 rfl rfl rfl))).trans (gEq_str (gates_show (E := E) hsm r).2)
  have f2 : (fBin gEq (fCall1 gRepr (fName 1)) (fName 6)) e9 s3 = .ok (.v (.bl true)) s3 :=
    (ev_bin ((ev_call1 (ev_name rfl)).trans (repr_ok (net_toP tr E) v1 v2)) (ev_name rfl)).trans (gEq_str v2)
  obtain ⟨s4, rfl, sx⟩ := nx3
  refine ⟨s4, ?_, sx⟩
  rw [e]
  unfold B_law_is_right
  rw [ex_seq p1]
  show gc st (retOf (fSeq _ _ e1 _)) = _
  rw [ex_seq p2]
  show gc st (retOf (fSeq _ _ (ev none none none) s')) = _
  rw [ex_seq ((ex_for hrng).trans k3), ex_seq p4]
  show gc st (retOf (fRet _ e9 _)) = _
  rw [ex_ret ((ev_andV f1).trans f2)]
  exact gc_sx b sx [fo] (.bl true)
end K41

set_option Elab.async false
set_option linter.all false
set_option maxRecDepth 100000
set_option maxHeartbeats 4000000
set_option autoImplicit false
namespace K41
open PySem PySem.Spec PyProof.Rows L2 Fx

theorem far_eq {st : Store} (b : Bag st) : ∃ st', F_law_is_far_right [.ref 1] st = .ok (.v (.bl true)) st' ∧ Sx st st' := by
  have two := b.two
  let e0 : Fx.Env := [some (.ref 1), none, none]
  have e : F_law_is_far_right [.ref 1] st = gc st (retOf (B_law_is_far_right e0 st)) := rfl
  obtain ⟨n, tr, E, s1, q1, hN, n1, htr, hn10, sx1, nd, nl⟩ := F_net_eq b 7 10 (by decide) (by decide) (by decide)
  have hE := hN.eok
  have hl := hN.len
  have hsm := hE.small
  have b1 := sx1.bag
  have q1' : F_law_net [.ref 1, .int 7, .int 10] st = .ok (.v (netD tr E)) s1 := q1
  have c1 : (fCall F_law_net (fCons (fName 0) (fCons (fC (.int 7)) (fCons (fC (.int 10)) fNil)))) e0 st = .ok (.v (netD tr E)) s1 := by
    rw [ev_call (ev_consV (ev_name rfl) (ev_consV ev_c (ev_consV ev_c ev_nil))) q1']
    exact gc_sx0 b sx1 (bl_net tr E)
  have p1 := ex_set (k := 1) c1
  let e1 : Fx.Env := [some (.ref 1), some (netD tr E), none]
  have hlen : (fCall1 gLen (fBin gIx (fName 1) (fC (.int 0)))) e1 s1 = .ok (.v (.int (n : Int))) s1 := by
    rw [ev_call1 (ixN0 (tr := tr) (E := E) rfl)]
    simp [gLen, hl]
  have rl : (fListRng1 (fCall1 gLen (fBin gIx (fName 1) (fC (.int 0))))) e1 s1 = .ok (.o (.lst ((rngI n).map .int))) s1 := by
    rw [ev_listRng1 hlen (by omega), rngD_eq]
  obtain ⟨order, X, m1, m2, m3, m4, m5⟩ := F_mixed_eq (b1.app [O.lst ((rngI n).map .int)]) (n := s1.length) (xs := rngI n) b1.two (by simp) (by simp [rngI]; omega)
  obtain ⟨s2, rfl, sx2⟩ := m2.split b1.two
  have c2 : (fCall F_law_mixed (fCons (fName 0) (fCons (fListRng1 (fCall1 gLen (fBin gIx (fName 1) (fC (.int 0))))) fNil))) e1 s1 = .ok (.o (.lst (order.map .int))) s2 := by
    rw [ev_call (ev_consV (ev_name rfl) (ev_consO rl ev_nil)) m1]
    exact gc_sxO b1 sx2 _ (show OBl _ (.lst (order.map .int)) from bls_ints order)
  let cut : List Int := cutI order none (some 3)
  have c3 : (fSl (fCall F_law_mixed (fCons (fName 0) (fCons (fListRng1 (fCall1 gLen (fBin gIx (fName 1) (fC (.int 0))))) fNil))) fNo (fPart (fC (.int 3)))) e1 s1 = .ok (.o (.lst (cut.map .int))) s2 := by
    unfold fSl
    have h2 : (fPart (fC (.int 3))) e1 s2 = .ok (some 3) s2 := rfl
    rw [c2]; simp only [Out.bind, fNo, h2]
    unfold slc
    simp only [seqL, cut_map]
    rfl
  have hit : (fIt (fSl (fCall F_law_mixed (fCons (fName 0) (fCons (fListRng1 (fCall1 gLen (fBin gIx (fName 1) (fC (.int 0))))) fNil))) fNo (fPart (fC (.int 3))))) e1 s1 = .ok ⟨cut.map .int, Sq.any⟩ s2 := (ev_it c3).trans rfl
  obtain ⟨e', s', k3, ⟨x, rfl⟩, rfl, _⟩ := forL_inv (ok := Sq.any) (tg := tgN 2) (body := L_law_is_far_right_1) (e0 := e1)
    (fun rest env s => (∃ x, env = [some (.ref 1), some (netD tr E), x]) ∧ s = s2 ∧ ∀ d ∈ rest, ∃ i : Int, d = .int i ∧ (0 ≤ i ∧ i < n)) (fun rest env s ⟨⟨x, h⟩, _⟩ => ⟨trivial, by rw [h]; rfl⟩)
    (fun d rest env s ⟨⟨x, h⟩, hs, hd⟩ => by
      subst h hs
      obtain ⟨i, rfl, hi⟩ := hd d List.mem_cons_self
      refine ⟨[some (.ref 1), some (netD tr E), some (.int i)], rfl, [some (.ref 1), some (netD tr E), some (.int i)], s, .inl ?_, ⟨_, rfl⟩, rfl, fun d hd' => hd d (List.mem_cons_of_mem _ hd')⟩
      have g1 : (fBin gNe (fCall1 gRepr (fCall F_gates (fCons (fName 1) (fCons (fName 2) fNil)))) (fCall1 gRepr (fCall F_law_gates (fCons (fName 1) (fCons (fName 2) fNil))))) [some (.ref 1), some (netD tr E), some (.int i)] s = .ok (.v (.bl false)) s :=
        (ev_bin (repr_gates hsm (ev_callS (ev_consV (ev_name rfl) (ev_consV (ev_name rfl) ev_nil)) (F_gates_eq tr E i s hE hl))) (repr_gates hsm (ev_callS (ev_consV (ev_name rfl) (ev_consV (ev_name rfl) ev_nil)) (F_lgates_eq tr E i s hE hl hi)))).trans (gNe_strs (gates_show (E := E) hsm i).2)
      unfold L_law_is_far_right_1
      rw [ex_if (ev_true g1)]; rfl)
    (cut.map .int) e1 s2 ⟨⟨_, rfl⟩, rfl, fun d hd => by
      obtain ⟨v, hv, rfl⟩ := List.mem_map.mp hd
      exact ⟨v, rfl, mem_rngI.mp (m3 v (cut_mem hv))⟩⟩
  have sx := sx1.trans sx2
  refine ⟨s', ?_, sx⟩
  rw [e]
  unfold B_law_is_far_right
  rw [ex_seq p1]
  show gc st (retOf (fSeq _ _ e1 s1)) = _
  rw [ex_seq ((ex_for hit).trans k3), ex_ret ev_c]
  exact gc_sx0 b sx (.bl true)
theorem turn_ok {lz : D} {k : Nat} {s : Store} (b : Bag s) (hk : k < 4) :
    ∃ e' s' tl, L_law_1 [some lz, some (.ref 1), some (.int (k : Int)), none] s = .next e' s' ∧ e' = some lz :: some (.ref 1) :: tl ∧ tl.length = 2 ∧ Bag s' := by
  let e0 : Fx.Env := [some lz, some (.ref 1), some (.int (k : Int)), none]
  obtain ⟨hi, g1, g2, g3⟩ : ∃ hi : Nat, ([.int 3, .int 4, .int 6, .int 5] : List D)[k]? = some (.int (hi : Int)) ∧ hi ≤ 6 ∧ 1 + k ≤ hi := by
    have hk4 : k = 0 ∨ k = 1 ∨ k = 2 ∨ k = 3 := by omega
    rcases hk4 with e | e | e | e
    · subst e; exact ⟨3, rfl, by decide, by decide⟩
    · subst e; exact ⟨4, rfl, by decide, by decide⟩
    · subst e; exact ⟨6, rfl, by decide, by decide⟩
    · subst e; exact ⟨5, rfl, by decide, by decide⟩
  obtain ⟨n, tr, E, s1, q1, hN, n1, _, hn6, sx1, nd, nl⟩ := F_net_eq b (1 + k) hi (by omega) g3 (by omega)
  have hix : gIx (.o (.lst ([.int 3, .int 4, .int 6, .int 5] : List D))) (.v (.int (k : Int))) s = .ok (.v (.int (hi : Int))) s := by
    have e : L2.atI ([.int 3, .int 4, .int 6, .int 5] : List D) ((k : Nat) : Int) = some (.int (hi : Int)) := by
      unfold L2.atI L2.ixN
      rw [if_pos (by omega), if_pos (by simp; omega)]
      simpa using g1
    unfold gIx idx
    simp only [seqL, e]
  have a1 : (fBin gAdd (fC (.int 1)) (fName 2)) e0 s = .ok (.v (.int ((1 + k : Nat) : Int))) s := by
    refine ((ev_bin ev_c (ev_name rfl)).trans (g_add _ _)).trans ?_
    rw [show (1 : Int) + (k : Int) = ((1 + k : Nat) : Int) by omega]
  have a2 : (fBin gIx (fLst (fCons (fC (.int 3)) (fCons (fC (.int 4)) (fCons (fC (.int 6)) (fCons (fC (.int 5)) fNil))))) (fName 2)) e0 s = .ok (.v (.int (hi : Int))) s :=
    (ev_bin (ev_lst (ev_consV ev_c (ev_consV ev_c (ev_consV ev_c (ev_consV ev_c ev_nil)))) (by simp)) (ev_name rfl)).trans hix
  have c1 : (fCall F_law_net (fCons (fName 1) (fCons (fBin gAdd (fC (.int 1)) (fName 2)) (fCons (fBin gIx (fLst (fCons (fC (.int 3)) (fCons (fC (.int 4)) (fCons (fC (.int 6)) (fCons (fC (.int 5)) fNil))))) (fName 2)) fNil)))) e0 s = .ok (.v (netD tr E)) s1 := by
    rw [ev_call (ev_consV (ev_name rfl) (ev_consV a1 (ev_consV a2 ev_nil))) q1]
    exact gc_sx0 b sx1 (bl_net tr E)
  have p1 := ex_set (k := 3) c1
  have b1 := sx1.bag
  let e1 : Fx.Env := [some lz, some (.ref 1), some (.int (k : Int)), some (netD tr E)]
  obtain ⟨s2, f1, f2⟩ := right_eq b1 hN n1 (by omega) nd nl (decide ((k : Int) = 2))
  have hr : (fCall F_law_is_right (fCons (fName 1) (fCons (fName 3) (fCons (fBin gEq (fName 2) (fC (.int 2))) fNil)))) e1 s1 = .ok (.v (.bl true)) s2 := by
    rw [ev_call (ev_consV (ev_name rfl) (ev_consV (ev_name rfl) (ev_consV ((ev_bin (ev_name rfl) ev_c).trans (gEq_int _ _)) ev_nil))) f1]
    exact gc_sx0 b1 f2 (.bl true)
  refine ⟨e1, s2, _, ?_, rfl, rfl, f2.bag⟩
  unfold L_law_1
  rw [ex_seq p1]
  show fIfS _ _ _ e1 s1 = _
  rw [ex_if (ev_not (ev_true hr))]; rfl
theorem law_all (ns : List Int) (hl : ns.length ≤ 63) : ∃ st', F_law [.lz (ns.map .int)] [] = .ok (.v (.bl true)) st' := by
  let lz : D := .lz (ns.map .int)
  obtain ⟨far, m, q1, q2⟩ := F_bag_eq ns hl
  let e0 : Fx.Env := [some lz, none, none, none]
  have e : F_law [.lz (ns.map .int)] [] = gc [] (retOf (B_law e0 [])) := rfl
  have hb : (fCall F_law_bag (fCons (fName 0) fNil)) e0 [] = .ok (.o (.dK (bagK m 0))) [.lst (far.map .int)] := by
    rw [ev_call (ev_consV (ev_name rfl) ev_nil) q1]
    refine gc_newO' (st := []) (ex := [.lst (far.map .int)]) fun h => ?_
    have := h (.inr "far", .ref 0) (by simp [bagK])
    cases this with
    | ref q => exact absurd q (by simp)
  have p1 := ex_setO (k := 1) hb
  let sB0 : Store := [O.lst (far.map .int)] ++ [O.dK (bagK m 0)]
  have bag : Bag sB0 := ⟨by simp [sB0], far, m, 0, rfl, q2⟩
  let e1 : Fx.Env := [some lz, some (.ref 1), none, none]
  obtain ⟨s2, f1, f2⟩ := far_eq bag
  have hf : (fCall F_law_is_far_right (fCons (fName 1) fNil)) e1 sB0 = .ok (.v (.bl true)) s2 := by
    rw [ev_call (ev_consV (ev_name rfl) ev_nil) f1]
    exact gc_sx0 bag f2 (.bl true)
  have p2 : ∀ x : FS, fIfS (fNot (fTrue (fCall F_law_is_far_right (fCons (fName 1) fNil)))) x fSkip e1 sB0 = .next e1 s2 := fun x => by
    rw [ex_if (ev_not (ev_true hf))]; rfl
  have b2 := f2.bag
  have hsrc : (fRng1 (fC (.int 4))) e1 s2 = .ok ⟨(rngI 4).map .int, Sq.any⟩ s2 := by
    rw [ev_rng1 ev_c (by decide)]
    have := rngD_eq 4
    rw [show ((4 : Nat) : Int) = 4 from rfl] at this
    rw [this]
  obtain ⟨e', s', h1, ⟨tl, rfl, htl⟩, b', _⟩ := forL_inv (ok := Sq.any) (tg := tgN 2) (body := L_law_1) (e0 := e1)
    (fun rest env s => (∃ tl, env = some lz :: some (.ref 1) :: tl ∧ tl.length = 2) ∧ Bag s ∧ ∀ d ∈ rest, ∃ k : Nat, k < 4 ∧ d = .int (k : Int)) (fun rest env s ⟨⟨tl, h, hl⟩, _⟩ => ⟨trivial, by rw [h]; simp [e1, hl]⟩)
    (fun d rest env s ⟨⟨tl, h, hl⟩, b, hd⟩ => by
      subst h
      obtain ⟨k, hk, rfl⟩ := hd d List.mem_cons_self
      obtain ⟨e', s', tl', t1, t2, t3, t4⟩ := turn_ok (lz := lz) b hk
      have hsc : scope e1 (some lz :: some (.ref 1) :: tl) = e1 := by
        match tl, hl with
        | [_, _], _ => rfl
      rw [hsc]
      exact ⟨_, rfl, e', s', .inl t1, ⟨tl', t2, t3⟩, t4, fun d hd' => hd d (List.mem_cons_of_mem _ hd')⟩)
    ((rngI 4).map .int) e1 _ ⟨⟨_, rfl, rfl⟩, b2, fun d hd => by
      obtain ⟨v, hv, rfl⟩ := List.mem_map.mp hd
      have := mem_rngI.mp hv
      exact ⟨v.toNat, by omega, by rw [show ((v.toNat : Nat) : Int) = v by omega]⟩⟩
  have hsc : scope e1 (some lz :: some (.ref 1) :: tl) = e1 := by
    match tl, htl with
    | [_, _], _ => rfl
  rw [hsc] at h1
  refine ⟨[], ?_⟩
  rw [e]
  unfold B_law
  rw [ex_seq p1]
  show gc [] (retOf (fSeq _ _ e1 sB0)) = _
  rw [ex_seq (p2 _), ex_seq ((ex_for hsrc).trans h1), ex_ret ev_c]
  exact gc_new (st := []) (ex := s') (.bl true)
end K41

set_option Elab.async false
set_option linter.all false
set_option maxRecDepth 100000
set_option maxHeartbeats 0
set_option autoImplicit false
namespace K41
open PySem PySem.Spec PyProof.Rows L2 Fx
/-! ### the head -/
def d_nexts : He.DefD := ⟨("nexts", none), "nexts", "nexts", defArgs s_nexts, defBody s_nexts, defScope s_nexts, [], []⟩
def d_reach : He.DefD := ⟨("reach", none), "reach", "reach", defArgs s_reach, defBody s_reach, defScope s_reach, [], []⟩
def d_bare_at : He.DefD := ⟨("bare_at", none), "bare_at", "bare_at", defArgs s_bare_at, defBody s_bare_at, defScope s_bare_at, [], []⟩
def d_gates : He.DefD := ⟨("gates", none), "gates", "gates", defArgs s_gates, defBody s_gates, defScope s_gates, [], []⟩
def d_law_bag : He.DefD := ⟨("_law_bag", none), "_law_bag", "_law_bag", defArgs s_law_bag, defBody s_law_bag, defScope s_law_bag, [], []⟩
def d_law_draw : He.DefD := ⟨("_law_draw", none), "_law_draw", "_law_draw", defArgs s_law_draw, defBody s_law_draw, defScope s_law_draw, [], []⟩
def d_law_pick : He.DefD := ⟨("_law_pick", none), "_law_pick", "_law_pick", defArgs s_law_pick, defBody s_law_pick, defScope s_law_pick, [], []⟩
def d_law_mixed : He.DefD := ⟨("_law_mixed", none), "_law_mixed", "_law_mixed", defArgs s_law_mixed, defBody s_law_mixed, defScope s_law_mixed, [], []⟩
def d_law_pairs : He.DefD := ⟨("_law_pairs", none), "_law_pairs", "_law_pairs", defArgs s_law_pairs, defBody s_law_pairs, defScope s_law_pairs, [], []⟩
def d_law_ring : He.DefD := ⟨("_law_ring", none), "_law_ring", "_law_ring", defArgs s_law_ring, defBody s_law_ring, defScope s_law_ring, [], []⟩
def d_law_lines : He.DefD := ⟨("_law_lines", none), "_law_lines", "_law_lines", defArgs s_law_lines, defBody s_law_lines, defScope s_law_lines, [], []⟩
def d_law_net : He.DefD := ⟨("_law_net", none), "_law_net", "_law_net", defArgs s_law_net, defBody s_law_net, defScope s_law_net, [], []⟩
def d_law_out : He.DefD := ⟨("_law_out", none), "_law_out", "_law_out", defArgs s_law_out, defBody s_law_out, defScope s_law_out, [], []⟩
def d_law_all_rounds : He.DefD := ⟨("_law_all_rounds", none), "_law_all_rounds", "_law_all_rounds", defArgs s_law_all_rounds, defBody s_law_all_rounds, defScope s_law_all_rounds, [], []⟩
def d_law_come : He.DefD := ⟨("_law_come", none), "_law_come", "_law_come", defArgs s_law_come, defBody s_law_come, defScope s_law_come, [], []⟩
def d_law_gates : He.DefD := ⟨("_law_gates", none), "_law_gates", "_law_gates", defArgs s_law_gates, defBody s_law_gates, defScope s_law_gates, [], []⟩
def d_law_due : He.DefD := ⟨("_law_due", none), "_law_due", "_law_due", defArgs s_law_due, defBody s_law_due, defScope s_law_due, [], []⟩
def d_law_is_right : He.DefD := ⟨("_law_is_right", none), "_law_is_right", "_law_is_right", defArgs s_law_is_right, defBody s_law_is_right, defScope s_law_is_right, [], []⟩
def d_law_is_far_right : He.DefD := ⟨("_law_is_far_right", none), "_law_is_far_right", "_law_is_far_right", defArgs s_law_is_far_right, defBody s_law_is_far_right, defScope s_law_is_far_right, [], []⟩
def d_law : He.DefD := ⟨("law", none), "law", "law", defArgs s_law, defBody s_law, defScope s_law, [], []⟩
def fn : List He.DefD := [d_nexts, d_reach, d_bare_at, d_gates, d_law_bag, d_law_draw, d_law_pick, d_law_mixed, d_law_pairs, d_law_ring, d_law_lines, d_law_net, d_law_out, d_law_all_rounds, d_law_come, d_law_gates, d_law_due, d_law_is_right, d_law_is_far_right, d_law]
def fa : List He.Fa := [.glo "nexts", .glo "reach", .glo "bare_at", .glo "gates", .glo "_law_bag", .glo "_law_draw", .glo "_law_pick", .glo "_law_mixed", .glo "_law_pairs", .glo "_law_ring", .glo "_law_lines", .glo "_law_net", .glo "_law_out", .glo "_law_all_rounds", .glo "_law_come", .glo "_law_gates", .glo "_law_due", .glo "_law_is_right", .glo "_law_is_far_right", .glo "law", .free "abs", .free "int", .free "len", .free "list", .free "range", .free "repr", .free "set", .free "sorted", .free "tuple", .free "zip"]
abbrev R : PySem.W.OpenRow := PySem.W.OpenLaw.row PySem.Challenge.rw_singlegates_k41_whole_gates_beside_all_r
abbrev hk : PySem.W.Hook := He.hookD 4 fa fn
def ob (s : PySem.W.SharedT) : He.AlD := He.obsDG 4 fa fn (HandSHeadRun.getT s)
theorem ob_eq (s : PySem.W.SharedT) : ob s = hk.obs s.abs := He.obsDG_eq (HandSHeadRun.getT_eq s)
abbrev loose : List Str := (["nexts", "reach", "bare_at", "gates", "_law_bag", "_law_draw", "_law_pick", "_law_mixed", "_law_pairs", "_law_ring", "_law_lines", "_law_net", "_law_out", "_law_all_rounds", "_law_come", "_law_gates", "_law_due", "_law_is_right", "_law_is_far_right"] : List Str)
theorem run (w : World) : HandSHeadRun.RunEq R (PySem.W.view R.prog [23]) hk ob 1160 loose w := by
  intro os
  kernel_rfl
theorem kb_gates_station_net {K : PySem.W.Frag} {f : Addr} {fd : FuncData} (F : FnP K "gates" s_gates f fd) (s : Shared) (us : List Value) (hl : us.length = 2) : BindsTo s fd ⟨[], List.zip ["station", "net"] us⟩ (List.zip ["net", "station"] (pick [1, 0] us)) := by
  obtain ⟨oc, od, dV, kV, doc, pm, an, cdv, ct, osl, rfl, lk, hcd, hD, hK⟩ := F.ex
  rcases hD with ⟨_, rfl⟩ | ⟨e, _⟩
  · refine .of_eq ?_
    match us, hl with
    | [_, _], _ => rfl
  · exact absurd rfl e
theorem facts {P : Program} {w : World} {K : PySem.W.Frag} {h : Heap} {mg : Str → Option Value} {f : Addr} (X : K.In h) (G : h.Ns mainGlobals mg) (hfa : mg ("law" : Str) = some (.ref f)) (c : He.SaysD fa fn K) :
    ∃ fd : FuncData, (∀ (s : Shared) (v : Value), BindsTo s fd ⟨[v], []⟩ [("script", v)]) ∧ ∀ base : Heap, K.In base → base.Ns mainGlobals mg → FnG P w K mg base 6 f fd ["script"] F_law := by
  obtain ⟨fd0, D0⟩ := c.def_ 0 (d := d_nexts) rfl
  obtain ⟨fd1, D1⟩ := c.def_ 1 (d := d_reach) rfl
  obtain ⟨fd2, D2⟩ := c.def_ 2 (d := d_bare_at) rfl
  obtain ⟨fd3, D3⟩ := c.def_ 3 (d := d_gates) rfl
  obtain ⟨fd4, D4⟩ := c.def_ 4 (d := d_law_bag) rfl
  obtain ⟨fd5, D5⟩ := c.def_ 5 (d := d_law_draw) rfl
  obtain ⟨fd6, D6⟩ := c.def_ 6 (d := d_law_pick) rfl
  obtain ⟨fd7, D7⟩ := c.def_ 7 (d := d_law_mixed) rfl
  obtain ⟨fd8, D8⟩ := c.def_ 8 (d := d_law_pairs) rfl
  obtain ⟨fd9, D9⟩ := c.def_ 9 (d := d_law_ring) rfl
  obtain ⟨fd10, D10⟩ := c.def_ 10 (d := d_law_lines) rfl
  obtain ⟨fd11, D11⟩ := c.def_ 11 (d := d_law_net) rfl
  obtain ⟨fd12, D12⟩ := c.def_ 12 (d := d_law_out) rfl
  obtain ⟨fd13, D13⟩ := c.def_ 13 (d := d_law_all_rounds) rfl
  obtain ⟨fd14, D14⟩ := c.def_ 14 (d := d_law_come) rfl
  obtain ⟨fd15, D15⟩ := c.def_ 15 (d := d_law_gates) rfl
  obtain ⟨fd16, D16⟩ := c.def_ 16 (d := d_law_due) rfl
  obtain ⟨fd17, D17⟩ := c.def_ 17 (d := d_law_is_right) rfl
  obtain ⟨fd18, D18⟩ := c.def_ 18 (d := d_law_is_far_right) rfl
  obtain ⟨fd19, D19⟩ := c.def_ 19 (d := d_law) rfl
  have e := hfa.symm.trans (He.glo_ok X G (c.fact 19 (f := .glo "law") rfl))
  cases e
  have b := FunD.bindsA (ps := ["script"]) D19 fun _ _ _ _ _ _ us hl => match us, hl with | [_], _ => rfl
  exact ⟨fd19, fun s v => b s [v] rfl, fun base _ _ => ok_law {
    f_nexts := _, fd_nexts := fd0, D_nexts := D0, g_nexts := He.glo_ok X G (c.fact 0 (f := .glo "nexts") rfl), b_nexts := D0.bindsN fun _ _ _ _ _ _ us hl => match us, hl with | [_, _], _ => rfl,
    f_reach := _, fd_reach := fd1, D_reach := D1, g_reach := He.glo_ok X G (c.fact 1 (f := .glo "reach") rfl), b_reach := D1.bindsN fun _ _ _ _ _ _ us hl => match us, hl with | [_, _], _ => rfl,
    f_bare_at := _, fd_bare_at := fd2, D_bare_at := D2, g_bare_at := He.glo_ok X G (c.fact 2 (f := .glo "bare_at") rfl), b_bare_at := D2.bindsN fun _ _ _ _ _ _ us hl => match us, hl with | [_, _], _ => rfl,
    f_gates := _, fd_gates := fd3, D_gates := D3, g_gates := He.glo_ok X G (c.fact 3 (f := .glo "gates") rfl), b_gates := D3.bindsN fun _ _ _ _ _ _ us hl => match us, hl with | [_, _], _ => rfl,
    f_law_bag := _, fd_law_bag := fd4, D_law_bag := D4, g_law_bag := He.glo_ok X G (c.fact 4 (f := .glo "_law_bag") rfl), b_law_bag := D4.bindsN fun _ _ _ _ _ _ us hl => match us, hl with | [_], _ => rfl,
    f_law_draw := _, fd_law_draw := fd5, D_law_draw := D5, g_law_draw := He.glo_ok X G (c.fact 5 (f := .glo "_law_draw") rfl), b_law_draw := D5.bindsN fun _ _ _ _ _ _ us hl => match us, hl with | [_, _], _ => rfl,
    f_law_pick := _, fd_law_pick := fd6, D_law_pick := D6, g_law_pick := He.glo_ok X G (c.fact 6 (f := .glo "_law_pick") rfl), b_law_pick := D6.bindsN fun _ _ _ _ _ _ us hl => match us, hl with | [_, _], _ => rfl,
    f_law_mixed := _, fd_law_mixed := fd7, D_law_mixed := D7, g_law_mixed := He.glo_ok X G (c.fact 7 (f := .glo "_law_mixed") rfl), b_law_mixed := D7.bindsN fun _ _ _ _ _ _ us hl => match us, hl with | [_, _], _ => rfl,
    f_law_pairs := _, fd_law_pairs := fd8, D_law_pairs := D8, g_law_pairs := He.glo_ok X G (c.fact 8 (f := .glo "_law_pairs") rfl), b_law_pairs := D8.bindsN fun _ _ _ _ _ _ us hl => match us, hl with | [_], _ => rfl,
    f_law_ring := _, fd_law_ring := fd9, D_law_ring := D9, g_law_ring := He.glo_ok X G (c.fact 9 (f := .glo "_law_ring") rfl), b_law_ring := D9.bindsN fun _ _ _ _ _ _ us hl => match us, hl with | [_], _ => rfl,
    f_law_lines := _, fd_law_lines := fd10, D_law_lines := D10, g_law_lines := He.glo_ok X G (c.fact 10 (f := .glo "_law_lines") rfl), b_law_lines := D10.bindsN fun _ _ _ _ _ _ us hl => match us, hl with | [_, _], _ => rfl,
    f_law_net := _, fd_law_net := fd11, D_law_net := D11, g_law_net := He.glo_ok X G (c.fact 11 (f := .glo "_law_net") rfl), b_law_net := D11.bindsN fun _ _ _ _ _ _ us hl => match us, hl with | [_, _, _], _ => rfl,
    f_law_out := _, fd_law_out := fd12, D_law_out := D12, g_law_out := He.glo_ok X G (c.fact 12 (f := .glo "_law_out") rfl), b_law_out := D12.bindsN fun _ _ _ _ _ _ us hl => match us, hl with | [_], _ => rfl,
    f_law_all_rounds := _, fd_law_all_rounds := fd13, D_law_all_rounds := D13, g_law_all_rounds := He.glo_ok X G (c.fact 13 (f := .glo "_law_all_rounds") rfl), b_law_all_rounds := D13.bindsN fun _ _ _ _ _ _ us hl => match us, hl with | [_], _ => rfl,
    f_law_come := _, fd_law_come := fd14, D_law_come := D14, g_law_come := He.glo_ok X G (c.fact 14 (f := .glo "_law_come") rfl), b_law_come := D14.bindsN fun _ _ _ _ _ _ us hl => match us, hl with | [_, _, _], _ => rfl,
    f_law_gates := _, fd_law_gates := fd15, D_law_gates := D15, g_law_gates := He.glo_ok X G (c.fact 15 (f := .glo "_law_gates") rfl), b_law_gates := D15.bindsN fun _ _ _ _ _ _ us hl => match us, hl with | [_, _], _ => rfl,
    f_law_due := _, fd_law_due := fd16, D_law_due := D16, g_law_due := He.glo_ok X G (c.fact 16 (f := .glo "_law_due") rfl), b_law_due := D16.bindsN fun _ _ _ _ _ _ us hl => match us, hl with | [_, _, _], _ => rfl,
    f_law_is_right := _, fd_law_is_right := fd17, D_law_is_right := D17, g_law_is_right := He.glo_ok X G (c.fact 17 (f := .glo "_law_is_right") rfl), b_law_is_right := D17.bindsN fun _ _ _ _ _ _ us hl => match us, hl with | [_, _, _], _ => rfl,
    f_law_is_far_right := _, fd_law_is_far_right := fd18, D_law_is_far_right := D18, g_law_is_far_right := He.glo_ok X G (c.fact 18 (f := .glo "_law_is_far_right") rfl), b_law_is_far_right := D18.bindsN fun _ _ _ _ _ _ us hl => match us, hl with | [_], _ => rfl,
    f_law := _, fd_law := fd19, D_law := D19, g_law := He.glo_ok X G (c.fact 19 (f := .glo "law") rfl), b_law := D19.bindsN fun _ _ _ _ _ _ us hl => match us, hl with | [_], _ => rfl,
    k_gates_station_net := fun s us hl => kb_gates_station_net D3 s us hl,
    n_abs := He.free_ok X G (c.fact 20 (f := .free "abs") rfl),
    n_int := He.free_ok X G (c.fact 21 (f := .free "int") rfl),
    n_len := He.free_ok X G (c.fact 22 (f := .free "len") rfl),
    n_list := He.free_ok X G (c.fact 23 (f := .free "list") rfl),
    n_range := He.free_ok X G (c.fact 24 (f := .free "range") rfl),
    n_repr := He.free_ok X G (c.fact 25 (f := .free "repr") rfl),
    n_set := He.free_ok X G (c.fact 26 (f := .free "set") rfl),
    n_sorted := He.free_ok X G (c.fact 27 (f := .free "sorted") rfl),
    n_tuple := He.free_ok X G (c.fact 28 (f := .free "tuple") rfl),
    n_zip := He.free_ok X G (c.fact 29 (f := .free "zip") rfl) }⟩
end K41
open PySem PySem.W PySem.Calls PyProof.Rows
theorem K41.holds_of (hF : ∀ ns : List Int, ns.length ≤ 63 → (∀ z ∈ ns, Builtin.Int.intBits z ≤ 1048576) → ∃ st', K41.F_law [.lz (ns.map .int)] [] = .ok (.v (.bl true)) st') : PySem.Challenge.rw_singlegates_k41_whole_gates_beside_all_r.Holds := by
  w_on; o_law
  refine HandSHeadRun.head_any (r := OpenLaw.row PySem.Challenge.rw_singlegates_k41_whole_gates_beside_all_r) (q := view (OpenLaw.row PySem.Challenge.rw_singlegates_k41_whole_gates_beside_all_r).prog [23]) (H := K41.hk) (ob := K41.ob) (M := 1160) (loose := K41.loose) (d := HandSHeadRun.topDef (OpenLaw.row PySem.Challenge.rw_singlegates_k41_whole_gates_beside_all_r).prog 23) (kwd := []) K41.ob_eq
    (by kernel_rfl) (fun s => by kernel_rfl) K41.run (by kernel_rfl) (by kernel_rfl) (by kernel_rfl) (by rfl) (by first | assumption | decide +kernel) (by decide +kernel) ⟨rfl, rfl, rfl, rfl, rfl, by decide +kernel⟩ ?hw ?hc
  case hw => w_witness2
  case hc =>
    refine Fx.walk_G (l := PySem.Challenge.rw_singlegates_k41_whole_gates_beside_all_r) (n := 63) (k := 6) (x := "script") (F := K41.F_law) rfl (by decide) (by kernel_rfl) ⟨rfl, by decide, by decide⟩ ?F hF
    intro w mg fa h Y G hmg0
    obtain ⟨K, KX, c⟩ := Y
    have hmg : mg ("law" : PySem.Str) = some (.ref fa) := by
      have e : (HandSHeadRun.topDef (OpenLaw.row PySem.Challenge.rw_singlegates_k41_whole_gates_beside_all_r).prog 23).name = ("law" : PySem.Str) := by kernel_rfl
      rw [← e]
      exact hmg0
    obtain ⟨fd, hb, hF⟩ := K41.facts (P := (PySem.Challenge.rw_singlegates_k41_whole_gates_beside_all_r).prog) (w := w) KX G hmg c
    exact ⟨K, fd, KX, hb, hF⟩

theorem PySem.Challenge.cw_singlegates_k41_whole_gates_beside_all_r_holds : PySem.Challenge.rw_singlegates_k41_whole_gates_beside_all_r.Holds :=
  K41.holds_of fun ns hl _ => K41.law_all ns hl
