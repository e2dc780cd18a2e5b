import PyProof.Rows.All
import Wide.All
import OpenK.AllK
import Wide.FinOn
import HandS.ClsMeth
import HandS.Deep
import HandS.DictComp
import HandS.ExcField
import HandS.ExcInit
import HandS.ExcOwn
import HandS.ExcValue
import HandS.Flow
import HandS.ForMost
import HandS.IsInst
import HandS.More
import HandS.RaiseMore
import HandS.Style
import HandS.TupAny
import HandS.TupLe
import HandS.TupMul
import HandS.Wide
import KE.KExcIs
import KE.SortKeyed
import PyProof.RowDictHeap
import PyProof.Rows.StrJoinMade
import PyProof.Rows.StrMul
import PySem.Challenge.RW_recipelayers_k13_errors_apart
set_option Elab.async false
set_option linter.all false
set_option maxRecDepth 100000
set_option maxHeartbeats 4000000
namespace DL
/-! DL: a small store semantics over the hand layer. D: data; O: what stands at a place of the store; M: a run. -/
open PySem PySem.Spec PyProof.Rows L2

inductive D where
  | non | bl (b : Bool) | int (i : Int) | str (x : Str) | tup (xs : List D) | ref (n : Nat) | fl (xs : List D)
instance : Inhabited D := ⟨.non⟩
/-- what stands at a place -/
inductive O where
  | lst (xs : List D)
  | dK (kvs : List (Key × D))
  | dT (kvs : List (List Key × D))
  | ins (c : Nat) (fs : List (Str × D))
  | exo (c : Nat) (d : Option Nat)
  | exd (fs : List (Str × D))
abbrev Sto := List O
abbrev Env := List (Option D)
abbrev Sl := L2.St
/-- a list that nobody writes -/
def FrL (K : PySem.W.Frag) (H : Hp) (a : Addr) (vs : List V) : Prop :=
  (∃ u, H a = some (.frz u (.lst vs))) ∨ ∃ (o : Obj) (its : Array Value) (n : Nat), K.lookup a = some o ∧ o.cls = .type "list" ∧ o.dict = none ∧ o.data = .seq its n ∧ its.size ≤ sizeLine ∧ Vals vs its.toList
theorem FrL.sq {K : PySem.W.Frag} {H : Hp} {a : Addr} {vs : List V} (h : FrL K H a vs) : SqL K H a vs := by
  rcases h with ⟨u, h⟩ | h
  · exact .inl (.inr ⟨u, h⟩)
  · exact .inr h

inductive R (α : Type) where
  | ok (a : α) (S : Sto)
  | err (c : Nat) (fs : List (Str × D)) (S : Sto)
  | no
abbrev M (α : Type) := Sto → R α
def M.ret {α : Type} (a : α) : M α := fun S => .ok a S
def M.bnd {α β : Type} (m : M α) (f : α → M β) : M β := fun S => match m S with
  | .ok a S' => f a S'
  | .err c fs S' => .err c fs S'
  | .no => .no
instance : Monad M where
  pure := M.ret
  bind := M.bnd
def stuck {α : Type} : M α := fun _ => .no
theorem bnd_ok {α β : Type} {m : M α} {f : α → M β} {S S' : Sto} {a : α} (h : m S = .ok a S') : (m >>= f) S = f a S' := by
  show M.bnd m f S = _
  unfold M.bnd
  rw [h]
theorem pure_ap {α : Type} {a : α} {S : Sto} : (pure a : M α) S = .ok a S := rfl
theorem bind_def {α β : Type} {m : M α} {f : α → M β} {S : Sto} : (m >>= f) S = match m S with
  | .ok a S' => f a S'
  | .err c fs S' => .err c fs S'
  | .no => .no := rfl

inductive Fl where
  | nx (r : Env) | rt (d : D) | bk (r : Env) | ct (r : Env)

/-! ### the relation -/
section
variable (K : PySem.W.Frag) (H : Hp) (φ : List Addr)
mutual
inductive RelD : D → V → Prop
  | non : RelD .non .non
  | bl (b : Bool) : RelD (.bl b) (.bl b)
  | int (i : Int) : RelD (.int i) (.int i)
  | str (x : Str) : RelD (.str x) (.str x)
  | tup {xs : List D} {a : Addr} {vs : List V} : SqT K H a vs → RelDs xs vs → RelD (.tup xs) (.ref a)
  | ref {n : Nat} {a : Addr} : φ[n]? = some a → RelD (.ref n) (.ref a)
  | fl {xs : List D} {a : Addr} {vs : List V} : FrL K H a vs → RelDs xs vs → RelD (.fl xs) (.ref a)
inductive RelDs : List D → List V → Prop
  | nil : RelDs [] []
  | cons {d : D} {ds : List D} {v : V} {vs : List V} : RelD d v → RelDs ds vs → RelDs (d :: ds) (v :: vs)
end
end
section
variable {K : PySem.W.Frag} {H H' : Hp} {φ φ' : List Addr}
/-- later: the places go on, the tuples stand -/
structure Gr (K : PySem.W.Frag) (φ : List Addr) (H : Hp) (φ' : List Addr) (H' : Hp) : Prop where
  pre : ∃ t, φ' = φ ++ t
  tup : ∀ a vs, SqT K H a vs → SqT K H' a vs
  frl : ∀ a vs, FrL K H a vs → FrL K H' a vs
structure Ext (K : PySem.W.Frag) (φ : List Addr) (H : Hp) (φ' : List Addr) (H' : Hp) : Prop extends Gr K φ H φ' H' where
  hid : ∀ b u, H b = some u → b ∉ φ → H' b = some u ∧ b ∉ φ'
theorem Ext.refl : Ext K φ H φ H := ⟨⟨⟨[], by simp⟩, fun _ _ h => h, fun _ _ h => h⟩, fun _ _ h n => ⟨h, n⟩⟩
theorem Ext.trans {φ'' : List Addr} {H'' : Hp} (a : Ext K φ H φ' H') (b : Ext K φ' H' φ'' H'') : Ext K φ H φ'' H'' := by
  obtain ⟨t, rfl⟩ := a.pre
  obtain ⟨u, e⟩ := b.pre
  exact ⟨⟨⟨t ++ u, by rw [e, List.append_assoc]⟩, fun x vs h => b.tup x vs (a.tup x vs h), fun x vs h => b.frl x vs (a.frl x vs h)⟩, fun x v h n => let ⟨h1, n1⟩ := a.hid x v h n; b.hid x v h1 n1⟩
theorem Gr.get (a : Gr K φ H φ' H') {n : Nat} {x : Addr} (h : φ[n]? = some x) : φ'[n]? = some x := by
  obtain ⟨t, rfl⟩ := a.pre
  rw [List.getElem?_append_left (List.getElem?_eq_some_iff.mp h).1]
  exact h
mutual
theorem RelD.mono0 (e : Gr K φ H φ' H') : ∀ (d : D) (v : V), RelD K H φ d v → RelD K H' φ' d v
  | .non, _, h => by cases h; exact .non
  | .bl _, _, h => by cases h; exact .bl _
  | .int _, _, h => by cases h; exact .int _
  | .str _, _, h => by cases h; exact .str _
  | .ref _, _, h => by
    cases h with
    | ref q => exact .ref (e.get q)
  | .tup xs, _, h => by
    cases h with
    | tup q r => exact .tup (e.tup _ _ q) (RelDs.mono0 e xs _ r)
  | .fl xs, _, h => by
    cases h with
    | fl q r => exact .fl (e.frl _ _ q) (RelDs.mono0 e xs _ r)
theorem RelDs.mono0 (e : Gr K φ H φ' H') : ∀ (ds : List D) (vs : List V), RelDs K H φ ds vs → RelDs K H' φ' ds vs
  | [], _, h => by cases h; exact .nil
  | d :: ds, _, h => by
    cases h with
    | cons a b => exact .cons (RelD.mono0 e d _ a) (RelDs.mono0 e ds _ b)
end
theorem RelD.mono (e : Ext K φ H φ' H') (d : D) (v : V) (h : RelD K H φ d v) : RelD K H' φ' d v := RelD.mono0 e.toGr d v h
theorem RelDs.mono (e : Ext K φ H φ' H') (d : List D) (v : List V) (h : RelDs K H φ d v) : RelDs K H' φ' d v := RelDs.mono0 e.toGr d v h
mutual
theorem RelD.move (kT : ∀ a vs, SqT K H a vs → SqT K H' a vs) (kF : ∀ a vs, FrL K H a vs → FrL K H' a vs) : ∀ (d : D) (v : V), RelD K H φ d v → RelD K H' φ d v
  | .non, _, h => by cases h; exact .non
  | .bl _, _, h => by cases h; exact .bl _
  | .int _, _, h => by cases h; exact .int _
  | .str _, _, h => by cases h; exact .str _
  | .ref _, _, h => by
    cases h with
    | ref q => exact .ref q
  | .tup xs, _, h => by
    cases h with
    | tup q r => exact .tup (kT _ _ q) (RelDs.move kT kF xs _ r)
  | .fl xs, _, h => by
    cases h with
    | fl q r => exact .fl (kF _ _ q) (RelDs.move kT kF xs _ r)
theorem RelDs.move (kT : ∀ a vs, SqT K H a vs → SqT K H' a vs) (kF : ∀ a vs, FrL K H a vs → FrL K H' a vs) : ∀ (ds : List D) (vs : List V), RelDs K H φ ds vs → RelDs K H' φ ds vs
  | [], _, h => by cases h; exact .nil
  | d :: ds, _, h => by
    cases h with
    | cons a b => exact .cons (RelD.move kT kF d _ a) (RelDs.move kT kF ds _ b)
end
theorem RelDs.length : ∀ {ds : List D} {vs : List V}, RelDs K H φ ds vs → ds.length = vs.length
  | [], _, h => by cases h; rfl
  | _ :: ds, _, h => by
    cases h with
    | cons a b => simp [RelDs.length b]
theorem RelDs.get : ∀ {ds : List D} {vs : List V} {i : Nat} {d : D}, RelDs K H φ ds vs → ds[i]? = some d → ∃ v, vs[i]? = some v ∧ RelD K H φ d v
  | [], _, _, _, _, e => by simp at e
  | x :: ds, _, 0, d, h, e => by
    cases h with
    | cons a b =>
      have e' : x = d := by simpa using e
      subst e'
      exact ⟨_, rfl, a⟩
  | x :: ds, _, i + 1, d, h, e => by
    cases h with
    | cons a b =>
      obtain ⟨v, h1, h2⟩ := RelDs.get (i := i) (d := d) b (by simpa using e)
      exact ⟨v, by simpa using h1, h2⟩
theorem RelDs.app : ∀ {xs ys : List D} {us vs : List V}, RelDs K H φ xs us → RelDs K H φ ys vs → RelDs K H φ (xs ++ ys) (us ++ vs)
  | [], _, _, _, h, q => by cases h; exact q
  | _ :: xs, _, _, _, h, q => by
    cases h with
    | cons a b => exact .cons a (RelDs.app b q)
theorem RelDs.take : ∀ {xs : List D} {us : List V} (n : Nat), RelDs K H φ xs us → RelDs K H φ (xs.take n) (us.take n)
  | _, _, 0, _ => .nil
  | [], _, n + 1, h => by cases h; exact .nil
  | _ :: xs, _, n + 1, h => by
    cases h with
    | cons a b => exact .cons a (RelDs.take n b)
theorem RelDs.drop : ∀ {xs : List D} {us : List V} (n : Nat), RelDs K H φ xs us → RelDs K H φ (xs.drop n) (us.drop n)
  | _, _, 0, h => h
  | [], _, n + 1, h => by cases h; exact .nil
  | _ :: xs, _, n + 1, h => by
    cases h with
    | cons a b => exact RelDs.drop n b
theorem RelDs.set : ∀ {xs : List D} {us : List V} (n : Nat) {d : D} {v : V}, RelDs K H φ xs us → RelD K H φ d v → RelDs K H φ (xs.set n d) (us.set n v)
  | [], _, n, _, _, h, _ => by cases h; exact .nil
  | _ :: xs, _, 0, _, _, h, q => by
    cases h with
    | cons a b => exact .cons q b
  | _ :: xs, _, n + 1, _, _, h, q => by
    cases h with
    | cons a b => exact .cons a (RelDs.set n b q)
theorem RelDs.rev {xs : List D} {us : List V} (h : RelDs K H φ xs us) : RelDs K H φ xs.reverse us.reverse := by
  induction xs generalizing us with
  | nil => cases h; exact .nil
  | cons x xs ih =>
    cases h with
    | cons a b =>
      rw [List.reverse_cons, List.reverse_cons]
      exact RelDs.app (ih b) (.cons a .nil)
theorem RelDs.rep {xs : List D} {us : List V} (h : RelDs K H φ xs us) : ∀ k : Nat, RelDs K H φ (List.replicate k xs).flatten (List.replicate k us).flatten
  | 0 => .nil
  | k + 1 => by
    rw [List.replicate_succ, List.replicate_succ, List.flatten_cons, List.flatten_cons]
    exact RelDs.app h (RelDs.rep h k)

/-- pairs of a dict, attributes -/
def RelKv {κ : Type} (K : PySem.W.Frag) (H : Hp) (φ : List Addr) : List (κ × D) → List (κ × V) → Prop := Paired fun p q => p.1 = q.1 ∧ RelD K H φ p.2 q.2
theorem RelKv.mono {κ : Type} (e : Gr K φ H φ' H') {xs : List (κ × D)} {ys : List (κ × V)} (h : RelKv K H φ xs ys) : RelKv K H' φ' xs ys :=
  Paired.mapP h fun p q ⟨a, b⟩ => ⟨a, RelD.mono0 e _ _ b⟩

/-- an exception's dict: none as yet, or at a place -/
def RelX (φ : List Addr) : Option Nat → Option Addr → Prop
  | none, none => True
  | some m, some x => φ[m]? = some x
  | _, _ => False
theorem RelX.mono {m : Option Nat} {x : Option Addr} (e : Gr K φ H φ' H') (h : RelX φ m x) : RelX φ' m x := by
  cases m with
  | none =>
    cases x with
    | none => exact True.intro
    | some x => exact h.elim
  | some m =>
    cases x with
    | none => exact h.elim
    | some x => exact e.get h
def RelO (K : PySem.W.Frag) (Γ : Nat → Addr) (H : Hp) (φ : List Addr) (a : Addr) : O → Prop
  | .lst ds => ∃ vs, H a = some (.lst vs) ∧ RelDs K H φ ds vs
  | .dK kvs => ∃ vs, H a = some (.dK vs) ∧ RelKv K H φ kvs vs
  | .dT kvs => ∃ vs, H a = some (.dT vs) ∧ RelKv K H φ kvs vs
  | .ins c fs => ∃ dx vs, H a = some (.ins (Γ c) dx vs) ∧ RelKv K H φ fs vs
  | .exo c d => ∃ dx, H a = some (L2.exo a (Γ c) dx) ∧ RelX φ d dx
  | .exd fs => ∃ vs, H a = some (L2.exd a vs) ∧ RelKv K H φ fs vs
structure Sim (K : PySem.W.Frag) (Γ : Nat → Addr) (φ : List Addr) (S : Sto) (H : Hp) : Prop where
  len : φ.length = S.length
  inj : ∀ (n m : Nat) (a : Addr), φ[n]? = some a → φ[m]? = some a → n = m
  obj : ∀ (n : Nat) (o : O) (a : Addr), S[n]? = some o → φ[n]? = some a → RelO K Γ H φ a o

/-- slots -/
structure RelE (K : PySem.W.Frag) (H : Hp) (φ : List Addr) (r : Env) (σ : Sl) : Prop where
  len : r.length = σ.length
  at_ : ∀ (i : Nat) (d : D), r[i]? = some (some d) → ∃ v, σ[i]? = some (some v) ∧ RelD K H φ d v
theorem RelE.mono (e : Ext K φ H φ' H') {r : Env} {σ : Sl} (h : RelE K H φ r σ) : RelE K H' φ' r σ :=
  ⟨h.len, fun i d q => let ⟨v, a, b⟩ := h.at_ i d q; ⟨v, a, RelD.mono e _ _ b⟩⟩
theorem RelE.set {r : Env} {σ : Sl} (h : RelE K H φ r σ) (i : Nat) {d : D} {v : V} (q : RelD K H φ d v) : RelE K H φ (r.set i (some d)) (σ.set i (some v)) := by
  refine ⟨by simp [h.len], fun j e z => ?_⟩
  by_cases hj : i = j
  · subst hj
    by_cases hl : i < r.length
    · rw [List.getElem?_set_self hl] at z
      cases z
      exact ⟨v, by rw [List.getElem?_set_self (by rw [← h.len]; exact hl)], q⟩
    · rw [List.getElem?_eq_none (by simpa using hl)] at z
      cases z
  · rw [List.getElem?_set_ne hj] at z ⊢
    exact h.at_ j e z
def wipeE (r : Env) : List Nat → Env
  | [] => r
  | v :: vs => (wipeE r vs).set v none
theorem wipeE_length (r : Env) : ∀ vs : List Nat, (wipeE r vs).length = r.length
  | [] => rfl
  | v :: vs => by unfold wipeE; rw [List.length_set, wipeE_length r vs]
theorem RelE.wipe {r : Env} {σ : Sl} (h : RelE K H φ r σ) : ∀ vs : List Nat, RelE K H φ (wipeE r vs) (wipe σ vs)
  | [] => h
  | v :: vs => by
    have ih := RelE.wipe h vs
    refine ⟨by rw [wipeE_length, wipe_length]; exact h.len, fun j e z => ?_⟩
    unfold wipeE at z
    unfold L2.wipe
    by_cases hj : v = j
    · subst hj
      by_cases hl : v < (wipeE r vs).length
      · rw [List.getElem?_set_self hl] at z
        cases z
      · rw [List.getElem?_eq_none (by simpa using hl)] at z
        cases z
    · rw [List.getElem?_set_ne hj] at z ⊢
      exact ih.at_ j e z
end

/-! ### how the heap moves -/
section
variable {K : PySem.W.Frag} {Γ : Nat → Addr} {H : Hp} {φ : List Addr} {S : Sto}
theorem sqT_upd_new {p : Addr} {o : HO} (hp : H p = none) {a : Addr} {vs : List V} (h : SqT K H a vs) : SqT K (upd H p o) a vs := by
  rcases h with (h | ⟨u, h⟩) | h
  · exact .inl (.inl (by rw [upd_ne (ne_of_none h hp)]; exact h))
  · exact .inl (.inr ⟨u, by rw [upd_ne (ne_of_none h hp)]; exact h⟩)
  · exact .inr h
theorem sqL_upd_new {p : Addr} {o : HO} (hp : H p = none) {a : Addr} {vs : List V} (h : SqL K H a vs) : SqL K (upd H p o) a vs := by
  rcases h with (h | ⟨u, h⟩) | h
  · exact .inl (.inl (by rw [upd_ne (ne_of_none h hp)]; exact h))
  · exact .inl (.inr ⟨u, by rw [upd_ne (ne_of_none h hp)]; exact h⟩)
  · exact .inr h
theorem sqT_upd_mut {p : Addr} {o : HO} (mu : Mut (H p)) {a : Addr} {vs : List V} (h : SqT K H a vs) : SqT K (upd H p o) a vs := by
  rcases h with (h | ⟨u, h⟩) | h
  · have ne : a ≠ p := fun z => by subst z; rw [h] at mu; exact mu
    exact .inl (.inl (by rw [upd_ne ne]; exact h))
  · have ne : a ≠ p := fun z => by subst z; rw [h] at mu; exact mu
    exact .inl (.inr ⟨u, by rw [upd_ne ne]; exact h⟩)
  · exact .inr h
theorem frl_upd {p : Addr} {o : HO} (hp : H p = none ∨ Mut (H p)) {a : Addr} {vs : List V} (h : FrL K H a vs) : FrL K (upd H p o) a vs := by
  rcases h with ⟨u, h⟩ | h
  · have ne : a ≠ p := fun z => by
      subst z
      rw [h] at hp
      rcases hp with hp | hp
      · cases hp
      · exact hp
    exact .inl ⟨u, by rw [upd_ne ne]; exact h⟩
  · exact .inr h
theorem Ext.new {p : Addr} {o : HO} (hp : H p = none) : Ext K φ H (φ ++ [p]) (upd H p o) := ⟨⟨⟨_, rfl⟩, fun _ _ h => sqT_upd_new hp h, fun _ _ h => frl_upd (.inl hp) h⟩, fun b u h n => by
  have ne := ne_of_none h hp
  rw [upd_ne ne]
  refine ⟨h, fun z => ?_⟩
  rcases List.mem_append.mp z with z | z
  · exact n z
  · exact ne (by simpa using z)⟩
theorem Ext.new0 {p : Addr} {o : HO} (hp : H p = none) : Ext K φ H φ (upd H p o) := ⟨⟨⟨[], by simp⟩, fun _ _ h => sqT_upd_new hp h, fun _ _ h => frl_upd (.inl hp) h⟩, fun b u h n => by
  rw [upd_ne (ne_of_none h hp)]
  exact ⟨h, n⟩⟩
theorem Ext.mut {p : Addr} {o : HO} (mu : Mut (H p)) {n : Nat} (hq : φ[n]? = some p) : Ext K φ H φ (upd H p o) := ⟨⟨⟨[], by simp⟩, fun _ _ h => sqT_upd_mut mu h, fun _ _ h => frl_upd (.inr mu) h⟩, fun b u h m => by
  have ne : b ≠ p := fun z => m (by rw [z]; exact List.mem_of_getElem? hq)
  rw [upd_ne ne]
  exact ⟨h, m⟩⟩

/-- an object kept, the others' heap moved on -/
theorem RelO.keep {φ' : List Addr} {H' : Hp} {a : Addr} {o : O} (e : Gr K φ H φ' H') (ha : ∀ u, H a = some u → H' a = some u) (h : RelO K Γ H φ a o) : RelO K Γ H' φ' a o := by
  cases o with
  | lst ds => obtain ⟨vs, h1, h2⟩ := h; exact ⟨vs, ha _ h1, RelDs.mono0 e _ _ h2⟩
  | dK kvs => obtain ⟨vs, h1, h2⟩ := h; exact ⟨vs, ha _ h1, RelKv.mono e h2⟩
  | dT kvs => obtain ⟨vs, h1, h2⟩ := h; exact ⟨vs, ha _ h1, RelKv.mono e h2⟩
  | ins c fs => obtain ⟨dx, vs, h1, h2⟩ := h; exact ⟨dx, vs, ha _ h1, RelKv.mono e h2⟩
  | exo c d => obtain ⟨dx, h1, h2⟩ := h; exact ⟨dx, ha _ h1, RelX.mono e h2⟩
  | exd fs => obtain ⟨vs, h1, h2⟩ := h; exact ⟨vs, ha _ h1, RelKv.mono e h2⟩
theorem RelO.move {H' : Hp} {a : Addr} {o : O} (kT : ∀ a vs, SqT K H a vs → SqT K H' a vs) (kF : ∀ a vs, FrL K H a vs → FrL K H' a vs) (ha : ∀ u, H a = some u → H' a = some u) (h : RelO K Γ H φ a o) : RelO K Γ H' φ a o := by
  cases o with
  | lst ds => obtain ⟨vs, h1, h2⟩ := h; exact ⟨vs, ha _ h1, RelDs.move kT kF _ _ h2⟩
  | dK kvs => obtain ⟨vs, h1, h2⟩ := h; exact ⟨vs, ha _ h1, Paired.mapP h2 fun p q ⟨a, b⟩ => ⟨a, RelD.move kT kF _ _ b⟩⟩
  | dT kvs => obtain ⟨vs, h1, h2⟩ := h; exact ⟨vs, ha _ h1, Paired.mapP h2 fun p q ⟨a, b⟩ => ⟨a, RelD.move kT kF _ _ b⟩⟩
  | ins c fs => obtain ⟨dx, vs, h1, h2⟩ := h; exact ⟨dx, vs, ha _ h1, Paired.mapP h2 fun p q ⟨a, b⟩ => ⟨a, RelD.move kT kF _ _ b⟩⟩
  | exo c d => obtain ⟨dx, h1, h2⟩ := h; exact ⟨dx, ha _ h1, h2⟩
  | exd fs => obtain ⟨vs, h1, h2⟩ := h; exact ⟨vs, ha _ h1, Paired.mapP h2 fun p q ⟨a, b⟩ => ⟨a, RelD.move kT kF _ _ b⟩⟩
/-- where a written thing stands -/
theorem RelO.stands {a : Addr} {o : O} (h : RelO K Γ H φ a o) : ∃ u, H a = some u ∧ Mut (some u) := by
  cases o with
  | lst ds => obtain ⟨vs, h1, h2⟩ := h; exact ⟨_, h1, trivial⟩
  | dK kvs => obtain ⟨vs, h1, h2⟩ := h; exact ⟨_, h1, trivial⟩
  | dT kvs => obtain ⟨vs, h1, h2⟩ := h; exact ⟨_, h1, trivial⟩
  | ins c fs => obtain ⟨dx, vs, h1, h2⟩ := h; exact ⟨_, h1, trivial⟩
  | exo c d => obtain ⟨dx, h1, h2⟩ := h; exact ⟨_, h1, True.intro⟩
  | exd fs => obtain ⟨vs, h1, h2⟩ := h; exact ⟨_, h1, True.intro⟩
theorem Sim.lt {n : Nat} {a : Addr} (s : Sim K Γ φ S H) (h : φ[n]? = some a) : ∃ o, S[n]? = some o := by
  have := (List.getElem?_eq_some_iff.mp h).1
  rw [s.len] at this
  exact ⟨S[n], by simp [this]⟩
theorem Sim.stands {a : Addr} (s : Sim K Γ φ S H) (h : a ∈ φ) : ∃ u, H a = some u ∧ Mut (some u) := by
  obtain ⟨n, hn⟩ := List.getElem?_of_mem h
  obtain ⟨o, ho⟩ := s.lt hn
  exact (s.obj n o a ho hn).stands
theorem Sim.fresh {p : Addr} (s : Sim K Γ φ S H) (h : H p = none) : p ∉ φ := fun z => by
  obtain ⟨u, hu, _⟩ := s.stands z
  rw [h] at hu
  cases hu
/-- a thing that stood hidden is shown -/
theorem Sim.unhide {p : Addr} {o : O} (s : Sim K Γ φ S H) (hp : p ∉ φ) (ho : RelO K Γ H (φ ++ [p]) p o) (e : Gr K φ H (φ ++ [p]) H ∨ ∀ (n : Nat) (u : O) (a : Addr), S[n]? = some u → φ[n]? = some a → RelO K Γ H (φ ++ [p]) a u) : Sim K Γ (φ ++ [p]) (S ++ [o]) H := by
  have lookA : ∀ n a, (φ ++ [p])[n]? = some a → (φ[n]? = some a ∧ n < S.length) ∨ (n = S.length ∧ a = p) := fun n a h => by
    by_cases hl : n < φ.length
    · rw [List.getElem?_append_left hl] at h; exact .inl ⟨h, by rw [← s.len]; exact hl⟩
    · rw [List.getElem?_append_right (by omega)] at h
      have e1 : n - φ.length = 0 := by
        have := (List.getElem?_eq_some_iff.mp h).1
        simp at this
        omega
      rw [e1] at h
      refine .inr ⟨by have := s.len; omega, by simpa using h.symm⟩
  refine ⟨by simp [s.len], fun n m a h1 h2 => ?_, fun n u a h1 h2 => ?_⟩
  · rcases lookA n a h1 with ⟨k1, l1⟩ | ⟨hn, ha⟩
    · rcases lookA m a h2 with ⟨k2, l2⟩ | ⟨hm, hb⟩
      · exact s.inj n m a k1 k2
      · exact absurd (by rw [← hb]; exact List.mem_of_getElem? k1) hp
    · rcases lookA m a h2 with ⟨k2, l2⟩ | ⟨hm, hb⟩
      · exact absurd (by rw [← ha]; exact List.mem_of_getElem? k2) hp
      · omega
  · rcases lookA n a h2 with ⟨k2, l2⟩ | ⟨hn, ha⟩
    · rw [List.getElem?_append_left l2] at h1
      rcases e with e | e
      · exact RelO.keep e (fun _ z => z) (s.obj n u a h1 k2)
      · exact e n u a h1 k2
    · rw [hn, List.getElem?_append_right (Nat.le_refl _)] at h1
      have hu : o = u := by simpa using h1
      rw [← hu, ha]
      exact ho
theorem Sim.hide {p : Addr} {ho : HO} (s : Sim K Γ φ S H) (hp : H p = none) : Sim K Γ φ S (upd H p ho) := by
  have e : Ext K φ H φ (upd H p ho) := Ext.new0 hp
  refine ⟨s.len, s.inj, fun n u a h1 h2 => ?_⟩
  obtain ⟨w, hw, _⟩ := RelO.stands (s.obj n u a h1 h2)
  exact RelO.keep e.toGr (fun z hz => by rw [upd_ne (ne_of_none hw hp)]; exact hz) (s.obj n u a h1 h2)
/-- a hidden thing is written -/
theorem Sim.hid {p : Addr} {ho : HO} (s : Sim K Γ φ S H) (hp : p ∉ φ) (mu : Mut (H p)) : Sim K Γ φ S (upd H p ho) ∧ ∀ (d : D) (v : V), RelD K H φ d v → RelD K (upd H p ho) φ d v := by
  have kT : ∀ a vs, SqT K H a vs → SqT K (upd H p ho) a vs := fun _ _ h => sqT_upd_mut mu h
  have kF : ∀ a vs, FrL K H a vs → FrL K (upd H p ho) a vs := fun _ _ h => frl_upd (.inr mu) h
  have kD : ∀ (d : D) (v : V), RelD K H φ d v → RelD K (upd H p ho) φ d v := fun d v h => RelD.move kT kF d v h
  refine ⟨⟨s.len, s.inj, fun n u a h1 h2 => ?_⟩, kD⟩
  have ne : a ≠ p := fun z => hp (by rw [← z]; exact List.mem_of_getElem? h2)
  have kO : ∀ w, H a = some w → upd H p ho a = some w := fun w hw => by rw [upd_ne ne]; exact hw
  exact RelO.move kT kF kO (s.obj n u a h1 h2)
/-- a new thing at a new place -/
theorem Sim.new {p : Addr} {ho : HO} {o : O} (s : Sim K Γ φ S H) (hp : H p = none) (ho' : RelO K Γ (upd H p ho) (φ ++ [p]) p o) : Sim K Γ (φ ++ [p]) (S ++ [o]) (upd H p ho) := by
  have e : Ext K φ H (φ ++ [p]) (upd H p ho) := Ext.new hp
  refine (s.hide (ho := ho) hp).unhide (s.fresh hp) ho' (.inr fun n u a h1 h2 => ?_)
  obtain ⟨w, hw, _⟩ := RelO.stands (s.obj n u a h1 h2)
  exact RelO.keep e.toGr (fun z hz => by rw [upd_ne (ne_of_none hw hp)]; exact hz) (s.obj n u a h1 h2)
/-- a thing written -/
theorem Sim.set {n : Nat} {p : Addr} {ho : HO} {o u : O} (s : Sim K Γ φ S H) (hS : S[n]? = some u) (hq : φ[n]? = some p) (ho' : RelO K Γ (upd H p ho) φ p o) : Sim K Γ φ (S.set n o) (upd H p ho) := by
  obtain ⟨w, hw, mu⟩ := RelO.stands (s.obj n u p hS hq)
  have mu' : Mut (H p) := by rw [hw]; exact mu
  have e : Ext K φ H φ (upd H p ho) := Ext.mut mu' hq
  have hn : n < S.length := (List.getElem?_eq_some_iff.mp hS).1
  refine ⟨by simp [s.len], s.inj, fun m v a h1 h2 => ?_⟩
  by_cases hm : n = m
  · subst hm
    rw [List.getElem?_set_self hn] at h1
    have hv : o = v := by simpa using h1
    rw [hq] at h2
    cases h2
    rw [← hv]
    exact ho'
  · rw [List.getElem?_set_ne hm] at h1
    refine RelO.keep e.toGr (fun z hz => ?_) (s.obj m v a h1 h2)
    rw [upd_ne]
    · exact hz
    · intro ha
      exact hm (s.inj n m p hq (by rw [← ha]; exact h2))
end

open PySem PySem.Spec PyProof.Rows L2

/-- an exception's own dict -/
def XdOk (K : PySem.W.Frag) (H : Hp) (φ : List Addr) (fs : List (Str × D)) : Option Addr → Prop
  | none => fs = []
  | some d => ∃ vs, H d = some (.xd vs) ∧ RelKv K H φ fs vs
/-- what is wanted of a run's end -/
def Post {α β : Type} (K : PySem.W.Frag) (Γ : Nat → Addr) (E : XK) (rel : Hp → List Addr → α → β → Prop) (φ : List Addr) (H : Hp) (r : R α) (Q : β → Hp → Prop) : Prop :=
  match r with
  | .ok d S' => ∀ φ' H' v, Ext K φ H φ' H' → Sim K Γ φ' S' H' → rel H' φ' d v → Q v H'
  | .err c fs S' => ∀ φ' H' dx, Ext K φ H φ' H' → Sim K Γ φ' S' H' → XdOk K H' φ' fs dx → E (.ref (Γ c)) dx H'
  | .no => False
abbrev rD (K : PySem.W.Frag) : Hp → List Addr → D → V → Prop := fun H φ d v => RelD K H φ d v
abbrev rDs (K : PySem.W.Frag) : Hp → List Addr → List D → List V → Prop := fun H φ d v => RelDs K H φ d v
abbrev rB : Hp → List Addr → Bool → Bool → Prop := fun _ _ a b => a = b
section
variable {K : PySem.W.Frag} {Γ : Nat → Addr} {E : XK} {α β α' β' : Type} {rel : Hp → List Addr → α → β → Prop} {rel' : Hp → List Addr → α' → β' → Prop} {φ φ' : List Addr} {H H' : Hp} {S : Sto} {Q Q' : β → Hp → Prop}
theorem Post.mono {r : R α} (h : Post K Γ E rel φ H r Q) (e : Ext K φ H φ' H') : Post K Γ E rel φ' H' r Q := by
  cases r with
  | ok d S' => exact fun p G v e' s q => h p G v (e.trans e') s q
  | err c fs S' => exact fun p G dx e' s q => h p G dx (e.trans e') s q
  | no => exact h
theorem Post.imp {r : R α} (h : Post K Γ E rel φ H r Q) (k : ∀ v H', Q v H' → Q' v H') : Post K Γ E rel φ H r Q' := by
  cases r with
  | ok d S' => exact fun p G v e' s q => k v G (h p G v e' s q)
  | err c fs S' => exact h
  | no => exact h
theorem Post.bnd {m : M α} {f : α → M α'} {Q : β' → Hp → Prop} (h : Post K Γ E rel' φ H ((m >>= f) S) Q) :
    Post K Γ E rel φ H (m S) (fun (v : β) H1 => ∃ φ1 S1 d, Ext K φ H φ1 H1 ∧ Sim K Γ φ1 S1 H1 ∧ rel H1 φ1 d v ∧ Post K Γ E rel' φ1 H1 (f d S1) Q) := by
  rw [bind_def] at h
  cases hm : m S with
  | ok d S1 =>
    rw [hm] at h
    exact fun p G v e s q => ⟨p, S1, d, e, s, q, Post.mono h e⟩
  | err c fs S1 =>
    rw [hm] at h
    exact h
  | no =>
    rw [hm] at h
    exact h
/-- the run ends at once -/
theorem Post.here {d : α} {v : β} {Q : β → Hp → Prop} (h : Post K Γ E rel φ H (.ok d S) Q) (s : Sim K Γ φ S H) (q : rel H φ d v) : Q v H := h φ H v Ext.refl s q
theorem Post.val {d : α} {v : β} {Q : β → Hp → Prop} (h : Post K Γ E rel φ H ((pure d : M α) S) Q) (s : Sim K Γ φ S H) (q : rel H φ d v) : Q v H := h φ H v Ext.refl s q
end

/-! ### the judgements -/
def tE (K : PySem.W.Frag) (Γ : Nat → Addr) (E : XK) (m : Env → M D) : TE := fun σ H Q => ∃ φ r S, Sim K Γ φ S H ∧ RelE K H φ r σ ∧ Post K Γ E (rD K) φ H (m r S) Q
def tT (K : PySem.W.Frag) (Γ : Nat → Addr) (E : XK) (m : Env → M Bool) : TT := fun σ H Q => ∃ φ r S, Sim K Γ φ S H ∧ RelE K H φ r σ ∧ Post K Γ E rB φ H (m r S) Q
def tA (K : PySem.W.Frag) (Γ : Nat → Addr) (E : XK) (m : Env → M (List D)) : TA := fun σ H Q => ∃ φ r S, Sim K Γ φ S H ∧ RelE K H φ r σ ∧ Post K Γ E (rDs K) φ H (m r S) Q
abbrev RE (X : Cx) (Γ : Nat → Addr) (E : XK) (e : Expr) (m : Env → M D) : Prop := PE X e (tE X.K Γ E m)
abbrev RT (X : Cx) (Γ : Nat → Addr) (E : XK) (e : Expr) (m : Env → M Bool) : Prop := PT X e (tT X.K Γ E m)
abbrev RW_ (X : Cx) (Γ : Nat → Addr) (E : XK) (e : Expr) (m : Env → M Bool) : Prop := PW X e (tT X.K Γ E m)
abbrev RA (X : Cx) (Γ : Nat → Addr) (E : XK) (es : List Expr) (m : Env → M (List D)) : Prop := PA X es (tA X.K Γ E m)
/-- a two-place operation on data -/
def OpD (X : Cx) (Γ : Nat → Addr) (E : XK) (f : Value → Value → Sem Value) (op : D → D → M D) : Prop :=
  OpR X f fun x y H Q => ∃ φ S dx dy, Sim X.K Γ φ S H ∧ RelD X.K H φ dx x ∧ RelD X.K H φ dy y ∧ Post X.K Γ E (rD X.K) φ H (op dx dy S) Q
def UnD (X : Cx) (Γ : Nat → Addr) (E : XK) (f : Value → Sem Value) (op : D → M D) : Prop :=
  UnR X f fun x H Q => ∃ φ S dx, Sim X.K Γ φ S H ∧ RelD X.K H φ dx x ∧ Post X.K Γ E (rD X.K) φ H (op dx S) Q
def rCall (K : PySem.W.Frag) (Γ : Nat → Addr) (E : XK) (op : List D → M D) : List V → Hp → VK → Prop :=
  fun xs H Q => ∃ φ S ds, Sim K Γ φ S H ∧ RelDs K H φ ds xs ∧ Post K Γ E (rD K) φ H (op ds S) Q
def CallD (X : Cx) (Γ : Nat → Addr) (E : XK) (f : Value) (op : List D → M D) : Prop := CallR X f (rCall X.K Γ E op)
def rMt (K : PySem.W.Frag) (Γ : Nat → Addr) (E : XK) (op : D → List D → M D) : V → List V → Hp → VK → Prop :=
  fun x xs H Q => ∃ φ S d ds, Sim K Γ φ S H ∧ RelD K H φ d x ∧ RelDs K H φ ds xs ∧ Post K Γ E (rD K) φ H (op d ds S) Q
def MtD (X : Cx) (Γ : Nat → Addr) (E : XK) (id : String) (op : D → List D → M D) : Prop := MtR X id (rMt X.K Γ E op)
def IxD (X : Cx) (Γ : Nat → Addr) (E : XK) (op : D → D → M D) : Prop :=
  IxR X fun x y H Q => ∃ φ S dx dy, Sim X.K Γ φ S H ∧ RelD X.K H φ dx x ∧ RelD X.K H φ dy y ∧ Post X.K Γ E (rD X.K) φ H (op dx dy S) Q

section
variable {X : Cx} {Γ : Nat → Addr} {E : XK} {a b c e : Expr} {es : List Expr} {ma mb mc : Env → M D} {pos : Pos}
theorem PE.weaken {e : Expr} {t t' : TE} (h : PE X e t) (k : ∀ σ H Q, t' σ H Q → t σ H Q) : PE X e t' := ⟨fun pins s σ H Q I q => h.run pins s σ H Q I (k σ H Q q)⟩
theorem PT.weaken {e : Expr} {t t' : TT} (h : PT X e t) (k : ∀ σ H Q, t' σ H Q → t σ H Q) : PT X e t' := ⟨fun pins s σ H Q I q => h.run pins s σ H Q I (k σ H Q q)⟩
theorem PW.weaken {e : Expr} {t t' : TT} (h : PW X e t) (k : ∀ σ H Q, t' σ H Q → t σ H Q) : PW X e t' := ⟨fun w pins s σ H Q I q => h.run w pins s σ H Q I (k σ H Q q)⟩
theorem PA.weaken {e : List Expr} {t t' : TA} (h : PA X e t) (k : ∀ σ H Q, t' σ H Q → t σ H Q) : PA X e t' := ⟨fun w pins s σ H Q I q => h.run w pins s σ H Q I (k σ H Q q)⟩
theorem PS.weaken {e : Stmt} {t t' : TS} (h : PS X e t) (k : ∀ D σ H, t' D σ H → t D σ H) : PS X e t' := ⟨fun pins s σ H D I q => h.run pins s σ H D I (k D σ H q)⟩
theorem PSs.weaken {e : List Stmt} {t t' : TS} (h : PSs X e t) (k : ∀ D σ H, t' D σ H → t D σ H) : PSs X e t' := ⟨fun pins s σ H D I q => h.run pins s σ H D I (k D σ H q)⟩

/-- one step behind another -/
theorem tE_bnd {K : PySem.W.Frag} {α : Type} {m : Env → M D} {f : D → M α} {rel' : Hp → List Addr → α → β' → Prop} {φ : List Addr} {r : Env} {S : Sto} {σ : Sl} {H : Hp} {Q : β' → Hp → Prop} {Q' : VK} (s : Sim K Γ φ S H) (q : RelE K H φ r σ)
    (h : Post K Γ E rel' φ H ((m r >>= f) S) Q) (k : ∀ φ1 S1 d v H1, Ext K φ H φ1 H1 → Sim K Γ φ1 S1 H1 → RelE K H1 φ1 r σ → RelD K H1 φ1 d v → Post K Γ E rel' φ1 H1 (f d S1) Q → Q' v H1) : tE K Γ E m σ H Q' :=
  ⟨φ, r, S, s, q, (Post.bnd (rel := rD K) h).imp fun v H1 ⟨φ1, S1, d, e, s1, rv, p⟩ => k φ1 S1 d v H1 e s1 (q.mono e) rv p⟩
theorem tA_bnd {K : PySem.W.Frag} {α : Type} {m : Env → M (List D)} {f : List D → M α} {rel' : Hp → List Addr → α → β' → Prop} {φ : List Addr} {r : Env} {S : Sto} {σ : Sl} {H : Hp} {Q : β' → Hp → Prop} {Q' : List V → Hp → Prop} (s : Sim K Γ φ S H) (q : RelE K H φ r σ)
    (h : Post K Γ E rel' φ H ((m r >>= f) S) Q) (k : ∀ φ1 S1 d v H1, Ext K φ H φ1 H1 → Sim K Γ φ1 S1 H1 → RelE K H1 φ1 r σ → RelDs K H1 φ1 d v → Post K Γ E rel' φ1 H1 (f d S1) Q → Q' v H1) : tA K Γ E m σ H Q' :=
  ⟨φ, r, S, s, q, (Post.bnd (rel := rDs K) h).imp fun v H1 ⟨φ1, S1, d, e, s1, rv, p⟩ => k φ1 S1 d v H1 e s1 (q.mono e) rv p⟩
theorem tT_bnd {K : PySem.W.Frag} {α : Type} {m : Env → M Bool} {f : Bool → M α} {rel' : Hp → List Addr → α → β' → Prop} {φ : List Addr} {r : Env} {S : Sto} {σ : Sl} {H : Hp} {Q : β' → Hp → Prop} {Q' : Bool → Hp → Prop} (s : Sim K Γ φ S H) (q : RelE K H φ r σ)
    (h : Post K Γ E rel' φ H ((m r >>= f) S) Q) (k : ∀ φ1 S1 d H1, Ext K φ H φ1 H1 → Sim K Γ φ1 S1 H1 → RelE K H1 φ1 r σ → Post K Γ E rel' φ1 H1 (f d S1) Q → Q' d H1) : tT K Γ E m σ H Q' :=
  ⟨φ, r, S, s, q, (Post.bnd (rel := rB) h).imp fun v H1 ⟨φ1, S1, d, e, s1, rv, p⟩ => by
    cases rv
    exact k φ1 S1 v H1 e s1 (q.mono e) p⟩

/-! ### names, constants -/
def getv (i : Nat) : Env → M D := fun r S => match r[i]? with
  | some (some d) => .ok d S
  | _ => .no
theorem re_var (i : Nat) {x : Str} (hN : X.N[i]? = some x := by rfl) (hv : Vis X.env.scope x := by first | exact Or.inl rfl | exact Or.inr (Or.inl rfl) | exact Or.inr (Or.inr rfl)) (hd : (x == ("__debug__" : Str)) = false := by decide)
    (hcd : (x == ("__classdict__" : Str)) = false := by decide) : RE X Γ E (.Name x pos) (getv i) := by
  refine PE.weaken (pe_var hN hv hd hcd) fun σ H Q ⟨φ, r, S, s, q, p⟩ => ?_
  unfold getv at p
  cases hr : r[i]? with
  | none => rw [hr] at p; exact p.elim
  | some o =>
    cases o with
    | none => rw [hr] at p; exact p.elim
    | some d =>
      rw [hr] at p
      obtain ⟨v, h1, h2⟩ := q.at_ i d hr
      exact ⟨v, h1, p.here s h2⟩
def cst (d : D) : Env → M D := fun _ => pure d
theorem re_cst {K : PySem.W.Frag} {v : V} {d : D} (h : PE X e (tC v)) (r : ∀ H φ, RelD X.K H φ d v) : RE X Γ E e (cst d) :=
  PE.weaken h fun σ H Q ⟨φ, _, S, s, q, p⟩ => p.val s (r H φ)
theorem re_int {i j} : RE X Γ E (.Constant (.int i) j pos) (cst (.int i)) := PE.weaken pe_int fun σ H Q ⟨φ, _, S, s, q, p⟩ => p.val s (.int i)
theorem re_bl {i j} : RE X Γ E (.Constant (.bool i) j pos) (cst (.bl i)) := PE.weaken pe_bl fun σ H Q ⟨φ, _, S, s, q, p⟩ => p.val s (.bl i)
theorem re_non {j} : RE X Γ E (.Constant .none j pos) (cst .non) := PE.weaken pe_non fun σ H Q ⟨φ, _, S, s, q, p⟩ => p.val s .non
theorem re_str {x j} : RE X Γ E (.Constant (.str x) j pos) (cst (.str x)) := PE.weaken pe_str fun σ H Q ⟨φ, _, S, s, q, p⟩ => p.val s (.str x)
theorem re_glob {x : Str} {v : V} {d : D} {u : Value} (hg : Gl X x) (hm : X.mg x = some u) (r : RelV v u) (q : ∀ H φ, RelD X.K H φ d v) (hd : (x == ("__debug__" : Str)) = false := by decide) : RE X Γ E (.Name x pos) (cst d) :=
  PE.weaken (pe_glob hg hm r hd) fun σ H Q ⟨φ, _, S, s, _, p⟩ => p.val s (q H φ)

/-! ### operators -/
def binM (f : D → D → M D) (ma mb : Env → M D) : Env → M D := fun r => do
  let x ← ma r
  let y ← mb r
  f x y
theorem tE_op {f : D → D → M D} {R : V → V → Hp → VK → Prop} {σ : Sl} {H : Hp} {Q : VK} (h : tE X.K Γ E (binM f ma mb) σ H Q)
    (k : ∀ x y H2, (∃ φ S dx dy, Sim X.K Γ φ S H2 ∧ RelD X.K H2 φ dx x ∧ RelD X.K H2 φ dy y ∧ Post X.K Γ E (rD X.K) φ H2 (f dx dy S) Q) → R x y H2 Q) : tOp R (tE X.K Γ E ma) (tE X.K Γ E mb) σ H Q := by
  obtain ⟨φ, r, S, s, q, p⟩ := h
  refine tE_bnd s q p fun φ1 S1 d1 v1 H1 e1 s1 q1 r1 p1 => ?_
  refine tE_bnd s1 q1 p1 fun φ2 S2 d2 v2 H2 e2 s2 q2 r2 p2 => ?_
  exact k v1 v2 H2 ⟨φ2, S2, d1, d2, s2, RelD.mono e2 _ _ r1, r2, p2⟩
theorem re_bin {op : Operator} {f : D → D → M D} (ho : OpD X Γ E (binaryOp op) f) (ha : RE X Γ E a ma) (hb : RE X Γ E b mb) : RE X Γ E (.BinOp a op b pos) (binM f ma mb) :=
  PE.weaken (pe_op ho ha hb) fun σ H Q h => tE_op h fun _ _ _ q => q
theorem re_cmp {op : CmpOp} {f : D → D → M D} (ho : OpD X Γ E (compareOp op) f) (ha : RE X Γ E a ma) (hb : RE X Γ E b mb) (hm : behindInMarks op b = false := by first | exact nobehind _ (by decide) (by decide) | rfl) : RE X Γ E (.Compare a [op] [b] pos) (binM f ma mb) :=
  PE.weaken (pe_cmpR ho ha hb hm) fun σ H Q h => tE_op h fun _ _ _ q => q
/-- a value that is a truth -/
def asB : D → M Bool
  | .bl b => pure b
  | _ => stuck
def tstM (m : Env → M D) : Env → M Bool := fun r => do
  let x ← m r
  asB x
theorem asB_post {K : PySem.W.Frag} {φ : List Addr} {S : Sto} {H : Hp} {d : D} {v : V} {Q : Bool → Hp → Prop} (s : Sim K Γ φ S H) (r : RelD K H φ d v) (p : Post K Γ E rB φ H (asB d S) Q) : ∃ c, v = .bl c ∧ Q c H := by
  cases d with
  | bl b =>
    cases r
    exact ⟨b, rfl, p.val (v := b) s rfl⟩
  | _ => exact p.elim
theorem rt_val (h : RE X Γ E e ma) (he : ∀ whole, isTrue e X.env whole = (do let v ← whole; standAt e.pos; holding [v] (truthy v)) := by intro _; rfl) : RT X Γ E e (tstM ma) := by
  refine PT.weaken (pt_val h he) fun σ H Q ⟨φ, r, S, s, q, p⟩ => ?_
  exact tE_bnd s q p fun φ1 S1 d v H1 e1 s1 q1 rv p1 => asB_post s1 rv p1
theorem rt_cmp {op : CmpOp} {f : D → D → M D} (ho : OpD X Γ E (compareOp op) f) (ha : RE X Γ E a ma) (hb : RE X Γ E b mb) (hm : behindInMarks op b = false := by first | exact nobehind _ (by decide) (by decide) | rfl) : RT X Γ E (.Compare a [op] [b] pos) (tstM (binM f ma mb)) := by
  refine PT.weaken (pt_cmpR ho ha hb hm) fun σ H Q ⟨φ, r, S, s, q, p⟩ => ?_
  have p' : Post X.K Γ E rB φ H ((ma r >>= fun x => mb r >>= fun y => f x y >>= asB) S) Q := by
    have e : ((binM f ma mb r >>= asB) S : R Bool) = (ma r >>= fun x => mb r >>= fun y => f x y >>= asB) S := by
      unfold binM
      simp only [bind_def]
      cases ma r S with
      | ok d S1 =>
        simp only []
        cases mb r S1 with
        | ok d2 S2 => rfl
        | err _ _ _ => rfl
        | no => rfl
      | err _ _ _ => rfl
      | no => rfl
    rw [← e]
    exact p
  refine tE_bnd s q p' fun φ1 S1 d1 v1 H1 e1 s1 q1 r1 p1 => ?_
  refine tE_bnd s1 q1 p1 fun φ2 S2 d2 v2 H2 e2 s2 q2 r2 p2 => ?_
  refine ⟨φ2, S2, d1, d2, s2, RelD.mono e2 _ _ r1, r2, ?_⟩
  exact (Post.bnd (rel := rD X.K) p2).imp fun v H3 ⟨φ3, S3, d, e3, s3, rv, p3⟩ => asB_post s3 rv p3
def unM (f : D → M D) (ma : Env → M D) : Env → M D := fun r => do
  let x ← ma r
  f x
theorem re_un {op : UnaryOp} {f : D → M D} (ho : UnD X Γ E (unaryOp op) f) (ha : RE X Γ E a ma) : RE X Γ E (.UnaryOp op a pos) (unM f ma) :=
  PE.weaken (pe_un ho ha) fun σ H Q ⟨φ, r, S, s, q, p⟩ => tE_bnd s q p fun φ1 S1 d v H1 e1 s1 q1 rv p1 => ⟨φ1, S1, d, s1, rv, p1⟩

/-! ### and, or, not, if -/
variable {tA tB : Env → M Bool} {rest : List Expr}
def andT (x y : Env → M Bool) : Env → M Bool := fun r => do
  let c ← x r
  if c = true then y r else pure false
def orT (x y : Env → M Bool) : Env → M Bool := fun r => do
  let c ← x r
  if c = true then pure true else y r
def notT (x : Env → M Bool) : Env → M Bool := fun r => do
  let c ← x r
  pure (!c)
theorem rw_and1 (ha : RT X Γ E a tA) : RW_ X Γ E (.BoolOp .And [a] pos) tA := pw_and1 ha
theorem rw_or1 (ha : RT X Γ E a tA) : RW_ X Γ E (.BoolOp .Or [a] pos) tA := pw_or1 ha
theorem rw_and (ha : RT X Γ E a tA) (hb : RW_ X Γ E (.BoolOp .And (b :: rest) pos) tB) : RW_ X Γ E (.BoolOp .And (a :: b :: rest) pos) (andT tA tB) := by
  refine PW.weaken (pw_and ha hb) fun σ H Q ⟨φ, r, S, s, q, p⟩ => ?_
  refine tT_bnd s q p fun φ1 S1 d H1 e1 s1 q1 p1 => ?_
  cases d with
  | true => exact ⟨φ1, r, S1, s1, q1, p1⟩
  | false => exact p1.val (v := false) s1 rfl
theorem rw_or (ha : RT X Γ E a tA) (hb : RW_ X Γ E (.BoolOp .Or (b :: rest) pos) tB) : RW_ X Γ E (.BoolOp .Or (a :: b :: rest) pos) (orT tA tB) := by
  refine PW.weaken (pw_or ha hb) fun σ H Q ⟨φ, r, S, s, q, p⟩ => ?_
  refine tT_bnd s q p fun φ1 S1 d H1 e1 s1 q1 p1 => ?_
  cases d with
  | false => exact ⟨φ1, r, S1, s1, q1, p1⟩
  | true => exact p1.val (v := true) s1 rfl
theorem rt_not (ha : RT X Γ E a tA) : RT X Γ E (.UnaryOp .Not a pos) (notT tA) := by
  refine PT.weaken (pt_not ha) fun σ H Q ⟨φ, r, S, s, q, p⟩ => ?_
  refine tT_bnd s q p fun φ1 S1 d H1 e1 s1 q1 p1 => ?_
  exact p1.val (v := !d) s1 rfl
/-- as values: all but the last are truths -/
def andV (x y : Env → M D) : Env → M D := fun r => do
  let c ← x r
  let k ← asB c
  if k = true then y r else pure (.bl false)
def orV (x y : Env → M D) : Env → M D := fun r => do
  let c ← x r
  let k ← asB c
  if k = true then pure (.bl true) else y r
def notV (x : Env → M D) : Env → M D := fun r => do
  let c ← x r
  let k ← asB c
  pure (.bl (!k))
theorem asB_bnd {K : PySem.W.Frag} {α β : Type} {rel : Hp → List Addr → α → β → Prop} {φ : List Addr} {S : Sto} {H : Hp} {d : D} {v : V} {f : Bool → M α} {Q : β → Hp → Prop} (r : RelD K H φ d v) (p : Post K Γ E rel φ H ((asB d >>= f) S) Q) : ∃ c, v = .bl c ∧ Post K Γ E rel φ H (f c S) Q := by
  cases d with
  | bl b =>
    cases r
    exact ⟨b, rfl, p⟩
  | _ => exact p.elim
theorem re_one {op} (h : RE X Γ E a ma) : RE X Γ E (.BoolOp op [a] pos) ma := pe_one h
theorem re_and (ha : RE X Γ E a ma) (hb : RE X Γ E (.BoolOp .And (b :: rest) pos) mb) : RE X Γ E (.BoolOp .And (a :: b :: rest) pos) (andV ma mb) := by
  refine PE.weaken (pe_and ha hb) fun σ H Q ⟨φ, r, S, s, q, p⟩ => ?_
  refine tE_bnd s q p fun φ1 S1 d v H1 e1 s1 q1 rv p1 => ?_
  obtain ⟨c, rfl, p2⟩ := asB_bnd rv p1
  refine ⟨c, rfl, ?_⟩
  cases c with
  | true => exact ⟨φ1, r, S1, s1, q1, p2⟩
  | false => exact p2.val s1 (.bl false)
theorem re_or (ha : RE X Γ E a ma) (hb : RE X Γ E (.BoolOp .Or (b :: rest) pos) mb) : RE X Γ E (.BoolOp .Or (a :: b :: rest) pos) (orV ma mb) := by
  refine PE.weaken (pe_or ha hb) fun σ H Q ⟨φ, r, S, s, q, p⟩ => ?_
  refine tE_bnd s q p fun φ1 S1 d v H1 e1 s1 q1 rv p1 => ?_
  obtain ⟨c, rfl, p2⟩ := asB_bnd rv p1
  refine ⟨c, rfl, ?_⟩
  cases c with
  | false => exact ⟨φ1, r, S1, s1, q1, p2⟩
  | true => exact p2.val s1 (.bl true)
theorem re_not (ha : RE X Γ E a ma) : RE X Γ E (.UnaryOp .Not a pos) (notV ma) := by
  refine PE.weaken (pe_not ha) fun σ H Q ⟨φ, r, S, s, q, p⟩ => ?_
  refine tE_bnd s q p fun φ1 S1 d v H1 e1 s1 q1 rv p1 => ?_
  obtain ⟨c, rfl, p2⟩ := asB_bnd rv p1
  exact ⟨c, rfl, p2.val s1 (.bl (!c))⟩
def ifM (t : Env → M Bool) (x y : Env → M D) : Env → M D := fun r => do
  let c ← t r
  if c = true then x r else y r
theorem re_if {c : Expr} (hc : RT X Γ E c tA) (ha : RE X Γ E a ma) (hb : RE X Γ E b mb) : RE X Γ E (.IfExp c a b pos) (ifM tA ma mb) := by
  refine PE.weaken (pe_ifExp hc ha hb) fun σ H Q ⟨φ, r, S, s, q, p⟩ => ?_
  refine tT_bnd s q p fun φ1 S1 d H1 e1 s1 q1 p1 => ?_
  cases d with
  | true => exact ⟨φ1, r, S1, s1, q1, p1⟩
  | false => exact ⟨φ1, r, S1, s1, q1, p1⟩

/-! ### argument lists, displays -/
variable {mA : Env → M (List D)}
def nilA : Env → M (List D) := fun _ => pure []
def consA (x : Env → M D) (xs : Env → M (List D)) : Env → M (List D) := fun r => do
  let d ← x r
  let ds ← xs r
  pure (d :: ds)
theorem ra_nil : RA X Γ E [] nilA := PA.weaken pa_nil fun σ H Q ⟨φ, r, S, s, q, p⟩ => p.val s .nil
theorem ra_cons (ha : RE X Γ E e ma) (hr : RA X Γ E es mA) (hs : starEach (e :: es) X.env = (false, eval e X.env) :: starEach es X.env := by rfl) : RA X Γ E (e :: es) (consA ma mA) := by
  refine PA.weaken (pa_cons ha hr hs) fun σ H Q ⟨φ, r, S, s, q, p⟩ => ?_
  refine tE_bnd s q p fun φ1 S1 d v H1 e1 s1 q1 rv p1 => ?_
  refine tA_bnd s1 q1 p1 fun φ2 S2 ds vs H2 e2 s2 q2 rvs p2 => ?_
  exact p2.val s2 (.cons (RelD.mono e2 _ _ rv) rvs)
def mkT (xs : List D) : M D := if xs.length ≤ sizeLine then pure (.tup xs) else stuck
def newO (o : O) : M D := fun S => .ok (.ref S.length) (S ++ [o])
def mkL (xs : List D) : M D := if xs.length ≤ sizeLine then newO (.lst xs) else stuck
/-- a new tuple -/
theorem Post.newT {K : PySem.W.Frag} {φ : List Addr} {S : Sto} {H : Hp} {ds : List D} {vs : List V} {Q : VK} (s : Sim K Γ φ S H) (r : RelDs K H φ ds vs) (p : Post K Γ E (rD K) φ H (.ok (.tup ds) S) Q) : ∀ q, H q = none → Q (.ref q) (upd H q (.tup vs)) := fun q hq =>
  p φ _ _ (Ext.new0 hq) (s.hide hq) (.tup (SqT.of upd_same) (RelDs.mono (Ext.new0 hq) _ _ r))
/-- a new list -/
theorem Post.newL {K : PySem.W.Frag} {φ : List Addr} {S : Sto} {H : Hp} {ds : List D} {vs : List V} {Q : VK} (s : Sim K Γ φ S H) (r : RelDs K H φ ds vs) (p : Post K Γ E (rD K) φ H (newO (.lst ds) S) Q) : ∀ q, H q = none → Q (.ref q) (upd H q (.lst vs)) := fun q hq =>
  p (φ ++ [q]) _ _ (Ext.new hq) (s.new hq ⟨vs, upd_same, RelDs.mono (Ext.new hq) _ _ r⟩) (.ref (by rw [← s.len, List.getElem?_append_right (Nat.le_refl _)]; simp))
theorem Post.ite {K : PySem.W.Frag} {α β : Type} {rel : Hp → List Addr → α → β → Prop} {φ : List Addr} {S : Sto} {H : Hp} {c : Prop} [Decidable c] {m : M α} {Q : β → Hp → Prop} (p : Post K Γ E rel φ H ((if c then m else stuck) S) Q) : c ∧ Post K Γ E rel φ H (m S) Q := by
  by_cases h : c
  · rw [if_pos h] at p; exact ⟨h, p⟩
  · rw [if_neg h] at p; exact p.elim
def tupM (mA : Env → M (List D)) : Env → M D := fun r => do
  let ds ← mA r
  mkT ds
def lstM (mA : Env → M (List D)) : Env → M D := fun r => do
  let ds ← mA r
  mkL ds
theorem re_tup {k} (h : RA X Γ E es mA) : RE X Γ E (.Tuple es k pos) (tupM mA) := by
  refine PE.weaken (pe_tup h) fun σ H Q ⟨φ, r, S, s, q, p⟩ => ?_
  refine tA_bnd s q p fun φ1 S1 ds vs H1 e1 s1 q1 rv p1 => ?_
  obtain ⟨hz, p2⟩ := Post.ite p1
  exact ⟨by rw [← RelDs.length rv]; exact hz, Post.newT s1 rv p2⟩
theorem re_lst (h : RA X Γ E es mA) : RE X Γ E (.List es pos) (lstM mA) := by
  refine PE.weaken (pe_lst h) fun σ H Q ⟨φ, r, S, s, q, p⟩ => ?_
  refine tA_bnd s q p fun φ1 S1 ds vs H1 e1 s1 q1 rv p1 => ?_
  obtain ⟨hz, p2⟩ := Post.ite p1
  exact ⟨by rw [← RelDs.length rv]; exact hz, Post.newL s1 rv p2⟩

/-! ### calls -/
def clM (f : List D → M D) (mA : Env → M (List D)) : Env → M D := fun r => do
  let ds ← mA r
  f ds
variable {x : Str} {p : Pos} {id T : String} {op : List D → M D}
theorem re_callB (hc : CallD X Γ E (.builtin id) op) (hg : Gl X x) (hm : X.mg x = none) (hv : bootBuiltins x = some (.builtin id)) (ha : RA X Γ E (e :: es) mA) (hn : x ≠ "__name__" := by decide) (hdb : (x == ("__debug__" : Str)) = false := by decide)
    (he : starEach (e :: es) X.env = (false, eval e X.env) :: starEach es X.env := by rfl) (hpl : (backTo pos (starEach es X.env)).any (·.1) = false := by rfl) : RE X Γ E (.Call (.Name x p) (e :: es) [] pos) (clM op mA) := by
  refine PE.weaken (pe_callB hc hg hm hv ha hn hdb he hpl) fun σ H Q ⟨φ, r, S, s, q, p⟩ => ?_
  exact tA_bnd s q p fun φ1 S1 ds vs H1 e1 s1 q1 rv p1 => ⟨φ1, S1, ds, s1, rv, p1⟩
theorem re_callTy (hc : CallD X Γ E (.type T) op) (hg : Gl X x) (hm : X.mg x = none) (hv : bootBuiltins x = some (.type T)) (ha : RA X Γ E (e :: es) mA) (hn : x ≠ "__name__" := by decide) (hdb : (x == ("__debug__" : Str)) = false := by decide)
    (he : starEach (e :: es) X.env = (false, eval e X.env) :: starEach es X.env := by rfl) (hpl : (backTo pos (starEach es X.env)).any (·.1) = false := by rfl) : RE X Γ E (.Call (.Name x p) (e :: es) [] pos) (clM op mA) := by
  refine PE.weaken (pe_callTy hc hg hm hv ha hn hdb he hpl) fun σ H Q ⟨φ, r, S, s, q, p⟩ => ?_
  exact tA_bnd s q p fun φ1 S1 ds vs H1 e1 s1 q1 rv p1 => ⟨φ1, S1, ds, s1, rv, p1⟩
/-- what a def of the text promises -/
def spM (K : PySem.W.Frag) (Γ : Nat → Addr) (n : Nat) (f : List D → M D) : Sp := fun vs H Q E => vs.length = n ∧ ∃ φ S ds, Sim K Γ φ S H ∧ RelDs K H φ ds vs ∧ Post K Γ E (rD K) φ H (f ds S) Q
variable {CX : CXT} {k n : Nat} {f : Addr} {fd : FuncData} {ps : List Str}
theorem re_call {mf : List D → M D} (F : FnOk X.prog X.w X.K X.mg X.base CX k f fd ps (spM X.K Γ n mf)) (hr : Room k X.A) (hg : Gl X x) (hm : X.mg x = some (.ref f)) (hk : PySem.W.keepIn X.K (.ref f) = true) (hb : Binds X.K fd ps []) (hx : Passes CX X E)
    (ha : RA X Γ E (e :: es) mA) (hn : (e :: es).length = n) (hdb : (x == ("__debug__" : Str)) = false := by decide) (he : starEach (e :: es) X.env = (false, eval e X.env) :: starEach es X.env := by rfl) (hpl : (backTo pos (starEach es X.env)).any (·.1) = false := by rfl)
    (hl : ∀ r S ds S', mA r S = .ok ds S' → ds.length = n) : RE X Γ E (.Call (.Name x p) (e :: es) [] pos) (clM mf mA) := by
  refine PE.weaken (pe_call F hr hg hm hk hb .nil hx ha hdb he hpl) fun σ H Q ⟨φ, r, S, s, q, p⟩ => ?_
  have p' := Post.bnd (rel := rDs X.K) p
  cases hm : mA r S with
  | ok ds S1 =>
    rw [hm] at p'
    refine ⟨φ, r, S, s, q, ?_⟩
    rw [hm]
    intro φ1 H1 vs e1 s1 rv
    obtain ⟨φ2, S2, d2, e2, s2, rv2, p2⟩ := p' φ1 H1 vs e1 s1 rv
    have hb := bnd_ok (f := mf) hm
    have p3 : Post X.K Γ E (rD X.K) φ H (mf ds S1) Q := by
      have p0 : Post X.K Γ E (rD X.K) φ H ((mA r >>= mf) S) Q := p
      rw [hb] at p0
      exact p0
    rw [List.append_nil]
    exact ⟨by rw [← RelDs.length rv]; exact hl r S ds S1 hm, φ1, S1, ds, s1, rv, p3.mono e1⟩
  | err c fs S1 =>
    rw [hm] at p'
    refine ⟨φ, r, S, s, q, ?_⟩
    rw [hm]
    exact p'
  | no =>
    rw [hm] at p'
    exact p'.elim
theorem lenA_nil : ∀ r S ds S', nilA r S = .ok ds S' → ds.length = 0 := fun r S ds S' h => by
  cases h
  rfl
theorem lenA_cons {x : Env → M D} {xs : Env → M (List D)} {n : Nat} (h : ∀ r S ds S', xs r S = .ok ds S' → ds.length = n) : ∀ r S ds S', consA x xs r S = .ok ds S' → ds.length = n + 1 := fun r S ds S' q => by
  unfold consA at q
  rw [bind_def] at q
  cases hx : x r S with
  | ok d S1 =>
    simp only [hx, bind_def] at q
    cases hy : xs r S1 with
    | ok ds2 S2 =>
      simp only [hy, pure_ap] at q
      cases q
      simp [h _ _ _ _ hy]
    | err _ _ _ => simp only [hy] at q; cases q
    | no => simp only [hy] at q; cases q
  | err _ _ _ => simp only [hx] at q; cases q
  | no => simp only [hx] at q; cases q
end

open PySem PySem.Spec PyProof.Rows L2

inductive FV where
  | nx (σ : Sl) | rt (v : V) | bk (σ : Sl) | ct (σ : Sl)
def endQ (D : Ends) : FV → Hp → Prop
  | .nx σ, H => D.nx σ H
  | .rt v, H => D.rt v H
  | .bk σ, H => D.bk σ H
  | .ct σ, H => D.ct σ H
inductive rFl (K : PySem.W.Frag) (H : Hp) (φ : List Addr) : Fl → FV → Prop
  | nx {r : Env} {σ : Sl} : RelE K H φ r σ → rFl K H φ (.nx r) (.nx σ)
  | rt {d : D} {v : V} : RelD K H φ d v → rFl K H φ (.rt d) (.rt v)
  | bk {r : Env} {σ : Sl} : RelE K H φ r σ → rFl K H φ (.bk r) (.bk σ)
  | ct {r : Env} {σ : Sl} : RelE K H φ r σ → rFl K H φ (.ct r) (.ct σ)
abbrev rF (K : PySem.W.Frag) : Hp → List Addr → Fl → FV → Prop := fun H φ a b => rFl K H φ a b
abbrev rEn (K : PySem.W.Frag) : Hp → List Addr → Env → Sl → Prop := fun H φ a b => RelE K H φ a b
def tS (K : PySem.W.Frag) (Γ : Nat → Addr) (E : XK) (m : Env → M Fl) : TS := fun D σ H => ∃ φ r S, Sim K Γ φ S H ∧ RelE K H φ r σ ∧ Post K Γ E (rF K) φ H (m r S) (endQ D)
abbrev RS (X : Cx) (Γ : Nat → Addr) (E : XK) (st : Stmt) (m : Env → M Fl) : Prop := PS X st (tS X.K Γ E m)
abbrev RSs (X : Cx) (Γ : Nat → Addr) (E : XK) (st : List Stmt) (m : Env → M Fl) : Prop := PSs X st (tS X.K Γ E m)
def tGt (K : PySem.W.Frag) (Γ : Nat → Addr) (E : XK) (g : D → Env → M Env) : TG := fun v σ H Q => ∃ φ r S d, Sim K Γ φ S H ∧ RelE K H φ r σ ∧ RelD K H φ d v ∧ Post K Γ E (rEn K) φ H (g d r S) Q
abbrev RG (X : Cx) (Γ : Nat → Addr) (E : XK) (tg : Expr) (g : D → Env → M Env) : Prop := PG X tg (tGt X.K Γ E g)
theorem PG.weaken {X : Cx} {e : Expr} {t t' : TG} (h : PG X e t) (k : ∀ v σ H Q, t' v σ H Q → t v σ H Q) : PG X e t' := ⟨fun pins s σ H v u Q I r q => h.run pins s σ H v u Q I r (k v σ H Q q)⟩

/-- without weakening the base -/
theorem Post.bnd0 {K : PySem.W.Frag} {Γ : Nat → Addr} {E : XK} {α β α' β' : Type} {rel : Hp → List Addr → α → β → Prop} {rel' : Hp → List Addr → α' → β' → Prop} {φ0 φ : List Addr} {H0 H : Hp} {S : Sto} {m : M α} {f : α → M α'} {Q : β' → Hp → Prop}
    (e0 : Ext K φ0 H0 φ H) (h : Post K Γ E rel' φ0 H0 ((m >>= f) S) Q) :
    Post K Γ E rel φ H (m S) (fun (v : β) H1 => ∃ φ1 S1 d, Ext K φ H φ1 H1 ∧ Sim K Γ φ1 S1 H1 ∧ rel H1 φ1 d v ∧ Post K Γ E rel' φ0 H0 (f d S1) Q) := by
  rw [bind_def] at h
  cases hm : m S with
  | ok d S1 =>
    rw [hm] at h
    exact fun p G v e s q => ⟨p, S1, d, e, s, q, h⟩
  | err c fs S1 =>
    rw [hm] at h
    exact fun p G dx e s q => h p G dx (e0.trans e) s q
  | no =>
    rw [hm] at h
    exact h

section
variable {X : Cx} {Γ : Nat → Addr} {E : XK} {a b c e : Expr} {es : List Expr} {ma mb mc : Env → M D} {pos : Pos} {st : Stmt} {rest : List Stmt} {mS mS' : Env → M Fl}

def nxM : Env → M Fl := fun r => pure (.nx r)
def seqM (m k : Env → M Fl) : Env → M Fl := fun r => do
  let f ← m r
  match f with
  | .nx r' => k r'
  | .rt d => pure (.rt d)
  | .bk r' => pure (.bk r')
  | .ct r' => pure (.ct r')
theorem rss_nil : RSs X Γ E [] nxM := PSs.weaken pss_nil fun D σ H ⟨φ, r, S, s, q, p⟩ => p.val (v := FV.nx σ) s (.nx q)
theorem rss_one (h : RS X Γ E st mS) : RSs X Γ E [st] mS := pss_one h
theorem rss_cons (h : RS X Γ E st mS) (hr : RSs X Γ E rest mS') : RSs X Γ E (st :: rest) (seqM mS mS') := by
  refine PSs.weaken (pss_cons h hr) fun D σ H ⟨φ, r, S, s, q, p⟩ => ?_
  refine ⟨φ, r, S, s, q, (Post.bnd (rel := rF X.K) p).imp fun fv H1 ⟨φ1, S1, f, e1, s1, rf, p1⟩ => ?_⟩
  cases rf with
  | nx q1 => exact ⟨φ1, _, S1, s1, q1, p1⟩
  | rt rv => exact p1.val (v := FV.rt _) s1 (.rt rv)
  | bk q1 => exact p1.val (v := FV.bk _) s1 (.bk q1)
  | ct q1 => exact p1.val (v := FV.ct _) s1 (.ct q1)
theorem rs_pass : RS X Γ E (.Pass pos) nxM := PS.weaken ps_pass fun D σ H ⟨φ, r, S, s, q, p⟩ => p.val (v := FV.nx σ) s (.nx q)
theorem rs_never : RS X Γ E st (fun _ => stuck) := PS.weaken ps_never fun D σ H ⟨φ, r, S, s, q, p⟩ => p.elim
theorem rss_never : RSs X Γ E rest (fun _ => stuck) := PSs.weaken pss_never fun D σ H ⟨φ, r, S, s, q, p⟩ => p.elim
def brM : Env → M Fl := fun r => pure (.bk r)
def coM : Env → M Fl := fun r => pure (.ct r)
theorem rs_break : RS X Γ E (.Break pos) brM := PS.weaken ps_break fun D σ H ⟨φ, r, S, s, q, p⟩ => p.val (v := FV.bk σ) s (.bk q)
theorem rs_continue : RS X Γ E (.Continue pos) coM := PS.weaken ps_continue fun D σ H ⟨φ, r, S, s, q, p⟩ => p.val (v := FV.ct σ) s (.ct q)
def dropM (m : Env → M D) : Env → M Fl := fun r => do
  let _ ← m r
  pure (.nx r)
theorem rs_expr (he : RE X Γ E e ma) (hs : swapsWith e none pos.line X.env = pure false := by rfl) : RS X Γ E (.Expr e pos) (dropM ma) := by
  refine PS.weaken (ps_expr he hs) fun D σ H ⟨φ, r, S, s, q, p⟩ => ?_
  exact tE_bnd s q p fun φ1 S1 d v H1 e1 s1 q1 rv p1 => p1.val (v := FV.nx σ) s1 (.nx q1)
def retM (m : Env → M D) : Env → M Fl := fun r => do
  let d ← m r
  pure (.rt d)
theorem rs_ret (he : RE X Γ E e ma) : RS X Γ E (.Return (some e) pos) (retM ma) := by
  refine PS.weaken (ps_ret he) fun D σ H ⟨φ, r, S, s, q, p⟩ => ?_
  exact tE_bnd s q p fun φ1 S1 d v H1 e1 s1 q1 rv p1 => p1.val (v := FV.rt v) s1 (.rt rv)
theorem rs_retN : RS X Γ E (.Return none pos) (fun _ => pure (.rt .non)) := PS.weaken ps_retN fun D σ H ⟨φ, r, S, s, q, p⟩ => p.val (v := FV.rt .non) s (.rt .non)
def ifS (t : Env → M Bool) (x y : Env → M Fl) : Env → M Fl := fun r => do
  let c ← t r
  if c = true then x r else y r
theorem rs_if {c : Expr} {x y : List Stmt} {tA : Env → M Bool} (hc : RT X Γ E c tA) (ha : RSs X Γ E x mS) (hb : RSs X Γ E y mS') : RS X Γ E (.If c x y pos) (ifS tA mS mS') := by
  refine PS.weaken (ps_if hc ha hb) fun D σ H ⟨φ, r, S, s, q, p⟩ => ?_
  refine tT_bnd s q p fun φ1 S1 d H1 e1 s1 q1 p1 => ?_
  cases d with
  | true => exact ⟨φ1, r, S1, s1, q1, p1⟩
  | false => exact ⟨φ1, r, S1, s1, q1, p1⟩

/-! ### targets, stores -/
def gNm (i : Nat) : D → Env → M Env := fun d r => pure (r.set i (some d))
theorem rg_name {i : Nat} {x : Str} (hN : X.N.Nodup) (hi : X.N[i]? = some x) (hx : Loc X.env.scope x) (hf : X.fn x = true ∨ X.env.scope.names.lookup x = some .local := by first | exact .inl rfl | exact .inr rfl | assumption) : RG X Γ E (.Name x pos) (gNm i) :=
  PG.weaken (pg_name hN hi hx hf) fun v σ H Q ⟨φ, r, S, d, s, q, rd, p⟩ => p.val s (q.set i rd)
def asgM (m : Env → M D) (g : D → Env → M Env) : Env → M Fl := fun r => do
  let d ← m r
  let r' ← g d r
  pure (.nx r')
theorem asg_to {K : PySem.W.Frag} {g : D → Env → M Env} {D : Ends} {σ : Sl} {H : Hp} (h : tS K Γ E (asgM ma g) D σ H) : tE K Γ E ma σ H fun x H1 => tGt K Γ E g x σ H1 D.nx := by
  obtain ⟨φ, r, S, s, q, p⟩ := h
  refine tE_bnd s q p fun φ1 S1 d v H1 e1 s1 q1 rv p1 => ?_
  exact ⟨φ1, r, S1, d, s1, q1, rv, (Post.bnd (rel := rEn K) p1).imp fun σ2 H2 ⟨φ2, S2, r2, e2, s2, q2, p2⟩ => p2.val (v := FV.nx σ2) s2 (.nx q2)⟩
theorem rs_asg {tg : Expr} {g : D → Env → M Env} (he : RE X Γ E e ma) (hg : RG X Γ E tg g) (hs : swapsWithSole [tg] e pos.line X.env = pure false := by rfl) (hw : swappedStores [tg] e X.env = pure none := by rfl)
    (h1 : (assignEach [tg] X.env).map (·.2) = [assign tg X.env] := by rfl) : RS X Γ E (.Assign [tg] e pos) (asgM ma g) :=
  PS.weaken (ps_asg he hg hs hw h1) fun D σ H h => asg_to h
theorem gName_of {K : PySem.W.Frag} {i : Nat} {v : V} {σ : Sl} {H : Hp} {Q : Sl → Hp → Prop} (h : tGt K Γ E (gNm i) v σ H Q) : gName i v σ H Q := by
  obtain ⟨φ, r, S, d, s, q, rd, p⟩ := h
  exact p.val s (q.set i rd)
theorem tE_imp {K : PySem.W.Frag} {m : Env → M D} {σ : Sl} {H : Hp} {Q Q' : VK} (h : tE K Γ E m σ H Q) (k : ∀ v H', Q v H' → Q' v H') : tE K Γ E m σ H Q' := by
  obtain ⟨φ, r, S, s, q, p⟩ := h
  exact ⟨φ, r, S, s, q, p.imp k⟩
theorem rs_set {i : Nat} {x : Str} {pos' : Pos} (hN : X.N.Nodup) (hi : X.N[i]? = some x) (hx : Loc X.env.scope x) (he : RE X Γ E e ma) (hs : swapsWith e (some (.Name x pos')) pos.line X.env = pure false := by rfl) (hf : X.fn x = true ∨ X.env.scope.names.lookup x = some .local := by first | exact .inl rfl | exact .inr rfl | assumption) :
    RS X Γ E (.Assign [.Name x pos'] e pos) (asgM ma (gNm i)) :=
  PS.weaken (ps_set hN hi hx he hs hf) fun D σ H h => tE_imp (asg_to h) fun v H' q => gName_of q
/-- a, b = x, y -/
def parM (i j : Nat) (mA : Env → M (List D)) : Env → M Fl := fun r => do
  let ds ← mA r
  match ds with
  | [x, y] => pure (.nx ((r.set i (some x)).set j (some y)))
  | _ => stuck
theorem rs_par {i j : Nat} {x y : Str} {mA : Env → M (List D)} {px py pt : Pos} {kt k2 pt2} (hc : X.calm = true) (hN : X.N.Nodup) (hi : X.N[i]? = some x) (hj : X.N[j]? = some y) (hij : i ≠ j)
    (hx : X.env.scope.names.lookup x = some .local) (hy : X.env.scope.names.lookup y = some .local) (ha : RA X Γ E [a, b] mA)
    (hw : swappedStores [.Tuple [.Name x px, .Name y py] kt pt] (.Tuple [a, b] k2 pt2) X.env = pure (some [x, y]))
    (hs : swapsWithSole [.Tuple [.Name x px, .Name y py] kt pt] (.Tuple [a, b] k2 pt2) pos.line X.env = pure false := by rfl) :
    RS X Γ E (.Assign [.Tuple [.Name x px, .Name y py] kt pt] (.Tuple [a, b] k2 pt2) pos) (parM i j mA) := by
  refine PS.weaken (ps_par hc hN hi hj hij hx hy ha hw hs) fun D σ H ⟨φ, r, S, s, q, p⟩ => ?_
  refine tA_bnd s q p fun φ1 S1 ds vs H1 e1 s1 q1 rv p1 => ?_
  match ds, rv, p1 with
  | [x, y], .cons r1 (.cons r2 .nil), p1 => exact ⟨_, _, rfl, p1.val (v := FV.nx _) s1 (.nx ((q1.set i r1).set j r2))⟩
  | [], _, p1 => exact p1.elim
  | [_], _, p1 => exact p1.elim
  | _ :: _ :: _ :: _, _, p1 => exact p1.elim
abbrev rU : Hp → List Addr → Unit → Unit → Prop := fun _ _ _ _ => True
/-- o[i] = v -/
def SetD (X : Cx) (Γ : Nat → Addr) (E : XK) (op : D → D → D → M Unit) : Prop :=
  PSet X fun o i v H Q => ∃ φ S dO dI dV, Sim X.K Γ φ S H ∧ RelD X.K H φ dO o ∧ RelD X.K H φ dI i ∧ RelD X.K H φ dV v ∧ Post X.K Γ E rU φ H (op dO dI dV S) fun (_ : Unit) H' => Q H'
def gSb (mo mi : Env → M D) (op : D → D → D → M Unit) : D → Env → M Env := fun d r => do
  let o ← mo r
  let i ← mi r
  let _ ← op o i d
  pure r
theorem rg_sub {o i : Expr} {mo mi : Env → M D} {op : D → D → D → M Unit} (ho : RE X Γ E o mo) (hi : RE X Γ E i mi) (hs : SetD X Γ E op)
    (ha : ∀ v, assign (.Subscript o i pos) X.env v = (do
      let ov ← holding [v] (eval o X.env)
      let iv ← holding [v, ov] (eval i X.env)
      standAt pos
      holding [v, ov, iv] (setItem ov iv v)
      release [v, ov, iv] []) := by intro _; rfl) : RG X Γ E (.Subscript o i pos) (gSb mo mi op) := by
  refine PG.weaken (pg_sub ho hi hs ha) fun v σ H Q ⟨φ, r, S, d, s, q, rd, p⟩ => ?_
  refine tE_bnd s q p fun φ1 S1 d1 v1 H1 e1 s1 q1 r1 p1 => ?_
  refine tE_bnd s1 q1 p1 fun φ2 S2 d2 v2 H2 e2 s2 q2 r2 p2 => ?_
  refine ⟨φ2, S2, d1, d2, d, s2, RelD.mono e2 _ _ r1, r2, RelD.mono (e1.trans e2) _ _ rd, ?_⟩
  exact (Post.bnd (rel := rU) p2).imp fun _ H3 ⟨φ3, S3, _, e3, s3, _, p3⟩ => p3.val s3 (q2.mono e3)
def IpD (X : Cx) (Γ : Nat → Addr) (E : XK) (o : Operator) (op : D → D → M D) : Prop :=
  PIp X o fun x y H Q => ∃ φ S dx dy, Sim X.K Γ φ S H ∧ RelD X.K H φ dx x ∧ RelD X.K H φ dy y ∧ Post X.K Γ E (rD X.K) φ H (op dx dy S) Q
def augM (i : Nat) (me : Env → M D) (op : D → D → M D) : Env → M Fl := fun r => do
  let x ← getv i r
  let y ← me r
  let z ← op x y
  pure (.nx (r.set i (some z)))
theorem rs_aug {i : Nat} {x : Str} {o : Operator} {op : D → D → M D} {pos' : Pos} (hN : X.N.Nodup) (hi : X.N[i]? = some x) (hx : Loc X.env.scope x) (he : RE X Γ E e ma) (ho : IpD X Γ E o op) (hf : X.fn x = true ∨ X.env.scope.names.lookup x = some .local := by first | exact .inl rfl | exact .inr rfl | assumption) :
    RS X Γ E (.AugAssign (.Name x pos') o e pos) (augM i ma op) := by
  refine PS.weaken (ps_aug hN hi hx he ho hf) fun D σ H ⟨φ, r, S, s, q, p⟩ => ?_
  have p' := Post.bnd (rel := rD X.K) p
  unfold getv at p'
  cases hr : r[i]? with
  | none => rw [hr] at p'; exact p'.elim
  | some od =>
    cases od with
    | none => rw [hr] at p'; exact p'.elim
    | some d =>
      rw [hr] at p'
      obtain ⟨v, h1, h2⟩ := q.at_ i d hr
      obtain ⟨φ0, S0, d0, e0, s0, rv0, p0⟩ := Post.here p' s h2
      have p1 : Post X.K Γ E (rF X.K) φ H ((getv i r >>= fun x => ma r >>= fun y => op x y >>= fun z => pure (Fl.nx (r.set i (some z)))) S) (endQ D) := p
      rw [bnd_ok (a := d) (S' := S) (by unfold getv; rw [hr])] at p1
      refine ⟨v, h1, ?_⟩
      refine tE_bnd s q p1 fun φ1 S1 d1 v1 H1 e1 s1 q1 r1 p1 => ?_
      refine ⟨φ1, S1, d, d1, s1, RelD.mono e1 _ _ h2, r1, ?_⟩
      exact (Post.bnd (rel := rD X.K) p1).imp fun z H2 ⟨φ2, S2, d2, e2, s2, rz, p2⟩ => p2.val (v := FV.nx _) s2 (.nx ((q1.mono e2).set i rz))
/-- o[i] op= e -/
def GetD (X : Cx) (Γ : Nat → Addr) (E : XK) (op : D → D → M D) : Prop :=
  PGet X fun x y H Q => ∃ φ S dx dy, Sim X.K Γ φ S H ∧ RelD X.K H φ dx x ∧ RelD X.K H φ dy y ∧ Post X.K Γ E (rD X.K) φ H (op dx dy S) Q
def augSM (mo mi me : Env → M D) (get : D → D → M D) (op : D → D → M D) (set : D → D → D → M Unit) : Env → M Fl := fun r => do
  let o ← mo r
  let i ← mi r
  let x ← get o i
  let y ← me r
  let z ← op x y
  let _ ← set o i z
  pure (.nx r)
theorem rs_augS {o i : Expr} {mo mi : Env → M D} {get ip : D → D → M D} {set : D → D → D → M Unit} {op : Operator} {tpos : Pos} (ho : RE X Γ E o mo) (hi : RE X Γ E i mi) (hg : GetD X Γ E get) (he : RE X Γ E e ma) (hp : IpD X Γ E op ip) (hs : SetD X Γ E set)
    (ha : ∀ ov iv new, augStore i ov iv new = (do holding [new, ov, iv] (setItem ov iv new); release [new, ov, iv] []; pure .next) := by intros; rfl) : RS X Γ E (.AugAssign (.Subscript o i tpos) op e pos) (augSM mo mi ma get ip set) := by
  refine PS.weaken (ps_augS ho hi hg he hp hs ha) fun D σ H ⟨φ, r, S, s, q, p⟩ => ?_
  refine tE_bnd s q p fun φ1 S1 d1 v1 H1 e1 s1 q1 r1 p1 => ?_
  refine tE_bnd s1 q1 p1 fun φ2 S2 d2 v2 H2 e2 s2 q2 r2 p2 => ?_
  refine ⟨φ2, S2, d1, d2, s2, RelD.mono e2 _ _ r1, r2, ?_⟩
  refine (Post.bnd (rel := rD X.K) p2).imp fun v3 H3 ⟨φ3, S3, d3, e3, s3, r3, p3⟩ => ?_
  refine tE_bnd s3 (q2.mono e3) p3 fun φ4 S4 d4 v4 H4 e4 s4 q4 r4 p4 => ?_
  refine ⟨φ4, S4, d3, d4, s4, RelD.mono e4 _ _ r3, r4, ?_⟩
  refine (Post.bnd (rel := rD X.K) p4).imp fun v5 H5 ⟨φ5, S5, d5, e5, s5, r5, p5⟩ => ?_
  refine ⟨φ5, S5, d1, d2, d5, s5, RelD.mono (e2.trans (e3.trans (e4.trans e5))) _ _ r1, RelD.mono (e3.trans (e4.trans e5)) _ _ r2, r5, ?_⟩
  exact (Post.bnd (rel := rU) p5).imp fun _ H6 ⟨φ6, S6, _, e6, s6, _, p6⟩ => p6.val (v := FV.nx σ) s6 (.nx (q4.mono (e5.trans e6)))

/-! ### for -/
inductive ItD where
  | tup (xs : List D) | fl (xs : List D) | lst (n : Nat) | rng (lo : Int) (k : Nat) | str (x : Str)
/-- at a turn: stuck, or the end, or an item -/
def ItD.at (J : ItD) (i : Nat) (S : Sto) : Option (Option D) :=
  match J with
  | .tup xs => some xs[i]?
  | .fl xs => some xs[i]?
  | .lst n => match S[n]? with
    | some (.lst xs) => some xs[i]?
    | _ => none
  | .rng lo k => some (if i < k then some (.int (lo + i)) else none)
  | .str x => some (x.cps[i]?.map fun c => .str ⟨#[c]⟩)
def ItD.size (J : ItD) (S : Sto) : Nat :=
  match J with
  | .tup xs => xs.length
  | .fl xs => xs.length
  | .lst n => match S[n]? with
    | some (.lst xs) => xs.length
    | _ => 0
  | .rng _ k => k
  | .str x => x.cps.size
inductive rI (K : PySem.W.Frag) (H : Hp) (φ : List Addr) : ItD → It → Prop
  | tup {xs : List D} {a : Addr} {vs : List V} : SqT K H a vs → RelDs K H φ xs vs → rI K H φ (.tup xs) (Itt K a)
  | lst {n : Nat} {a : Addr} : φ[n]? = some a → rI K H φ (.lst n) (Itl K a)
  | fl {xs : List D} {a : Addr} {vs : List V} : FrL K H a vs → RelDs K H φ xs vs → rI K H φ (.fl xs) (Itl K a)
  | rng (lo : Int) (k : Nat) : rI K H φ (.rng lo k) (Itr lo k)
  | str (x : Str) : rI K H φ (.str x) (Its x)
theorem rI.mono {K : PySem.W.Frag} {H H' : Hp} {φ φ' : List Addr} {J : ItD} {j : It} (e : Ext K φ H φ' H') (h : rI K H φ J j) : rI K H' φ' J j := by
  cases h with
  | tup a b => exact .tup (e.tup _ _ a) (RelDs.mono e _ _ b)
  | lst a => exact .lst (e.get a)
  | fl a b => exact .fl (e.frl _ _ a) (RelDs.mono e _ _ b)
  | rng lo k => exact .rng lo k
  | str x => exact .str x
/-- a list that stands at a place -/
theorem sim_list {K : PySem.W.Frag} {φ : List Addr} {S : Sto} {H : Hp} {n : Nat} {a : Addr} {xs : List D} (s : Sim K Γ φ S H) (hq : φ[n]? = some a) (h : S[n]? = some (.lst xs)) : ∃ vs, H a = some (.lst vs) ∧ RelDs K H φ xs vs := s.obj n _ a h hq
theorem rI.stop {K : PySem.W.Frag} {φ : List Addr} {S : Sto} {H : Hp} {J : ItD} {j : It} {i : Nat} (s : Sim K Γ φ S H) (h : rI K H φ J j) (hi : J.at i S = some none) : j.stop i H := by
  cases h with
  | tup a b =>
    unfold ItD.at at hi
    exact ⟨_, a, by rw [← RelDs.length b]; exact List.getElem?_eq_none_iff.mp (Option.some.inj hi)⟩
  | @lst n a q =>
    unfold ItD.at at hi
    cases hS : S[n]? with
    | none => simp only [hS] at hi; cases hi
    | some o =>
      cases o with
      | lst xs =>
        simp only [hS] at hi
        obtain ⟨vs, h1, h2⟩ := sim_list s q hS
        exact ⟨vs, SqL.of h1, by rw [← RelDs.length h2]; exact List.getElem?_eq_none_iff.mp (Option.some.inj hi)⟩
      | dK _ => simp only [hS] at hi; cases hi
      | dT _ => simp only [hS] at hi; cases hi
      | ins _ _ => simp only [hS] at hi; cases hi
      | exo _ _ => simp only [hS] at hi; cases hi
      | exd _ => simp only [hS] at hi; cases hi
  | fl a b =>
    unfold ItD.at at hi
    exact ⟨_, a.sq, by rw [← RelDs.length b]; exact List.getElem?_eq_none_iff.mp (Option.some.inj hi)⟩
  | rng lo k =>
    unfold ItD.at at hi
    have hi := Option.some.inj hi
    by_cases h : i < k
    · rw [if_pos h] at hi; cases hi
    · exact Nat.le_of_not_lt h
  | str x =>
    unfold ItD.at at hi
    have hi := Option.map_eq_none_iff.mp (Option.some.inj hi)
    exact Nat.le_of_not_lt fun z => by
      rw [Array.getElem?_eq_getElem z] at hi
      cases hi
theorem rI.go {K : PySem.W.Frag} {φ : List Addr} {S : Sto} {H : Hp} {J : ItD} {j : It} {i : Nat} {d : D} (s : Sim K Γ φ S H) (h : rI K H φ J j) (hi : J.at i S = some (some d)) : j.go i H ∧ ∀ x H', j.yld i H x H' → H' = H ∧ RelD K H φ d x := by
  cases h with
  | tup a b =>
    unfold ItD.at at hi
    obtain ⟨v, h1, h2⟩ := RelDs.get b (Option.some.inj hi)
    refine ⟨⟨_, v, a, h1⟩, fun x H' ⟨e, y⟩ => ⟨e, ?_⟩⟩
    have := y _ a
    rw [h1] at this
    cases this
    exact h2
  | @lst n a q =>
    unfold ItD.at at hi
    have key : ∀ xs, S[n]? = some (.lst xs) → xs[i]? = some d → (Itl K a).go i H ∧ ∀ x H', (Itl K a).yld i H x H' → H' = H ∧ RelD K H φ d x := fun xs hS hx => by
      obtain ⟨vs, h1, h2⟩ := sim_list s q hS
      obtain ⟨v, h3, h4⟩ := RelDs.get h2 hx
      refine ⟨⟨vs, v, SqL.of h1, h3⟩, fun x H' ⟨e, y⟩ => ⟨e, ?_⟩⟩
      have := y _ (SqL.of h1)
      rw [h3] at this
      cases this
      exact h4
    cases hS : S[n]? with
    | none => simp only [hS] at hi; cases hi
    | some o =>
      cases o with
      | lst xs => simp only [hS] at hi; exact key xs hS (Option.some.inj hi)
      | dK _ => simp only [hS] at hi; cases hi
      | dT _ => simp only [hS] at hi; cases hi
      | ins _ _ => simp only [hS] at hi; cases hi
      | exo _ _ => simp only [hS] at hi; cases hi
      | exd _ => simp only [hS] at hi; cases hi
  | fl a b =>
    unfold ItD.at at hi
    obtain ⟨v, h1, h2⟩ := RelDs.get b (Option.some.inj hi)
    refine ⟨⟨_, v, a.sq, h1⟩, fun x H' ⟨e, y⟩ => ⟨e, ?_⟩⟩
    have := y _ a.sq
    rw [h1] at this
    cases this
    exact h2
  | rng lo k =>
    unfold ItD.at at hi
    have hi := Option.some.inj hi
    by_cases h : i < k
    · rw [if_pos h] at hi
      cases hi
      refine ⟨h, fun x H' ⟨e, y⟩ => ⟨e, ?_⟩⟩
      rw [y]
      exact .int _
    · rw [if_neg h] at hi; cases hi
  | str x =>
    unfold ItD.at at hi
    obtain ⟨c, hc, rfl⟩ := Option.map_eq_some_iff.mp (Option.some.inj hi)
    refine ⟨(Array.getElem?_eq_some_iff.mp hc).1, fun y H' ⟨e, c', hc', z⟩ => ⟨e, ?_⟩⟩
    rw [hc] at hc'
    cases hc'
    subst z
    exact .str _
def tIt (K : PySem.W.Frag) (Γ : Nat → Addr) (E : XK) (m : Env → M ItD) : TI := fun σ H R => ∃ φ r S, Sim K Γ φ S H ∧ RelE K H φ r σ ∧ Post K Γ E (fun H φ => rI K H φ) φ H (m r S) R
abbrev RI (X : Cx) (Γ : Nat → Addr) (E : XK) (tg iter : Expr) (m : Env → M ItD) : Prop := PI X tg iter (tIt X.K Γ E m)
theorem PI.weaken {tg iter : Expr} {t t' : TI} (h : PI X tg iter t) (k : ∀ σ H R, t' σ H R → t σ H R) : PI X tg iter t' := ⟨fun pins s σ H R I q => h.run pins s σ H R I (k σ H R q)⟩
def forN (g : D → Env → M Env) (body : Env → M Fl) (J : ItD) : Nat → Nat → Env → M Fl
  | n, i, r => fun S => match J.at i S with
    | none => .no
    | some none => .ok (.nx r) S
    | some (some d) => match n with
      | 0 => .no
      | n + 1 => (do
        let r1 ← g d r
        let f ← body r1
        match f with
        | .nx r2 => forN g body J n (i + 1) r2
        | .ct r2 => forN g body J n (i + 1) r2
        | .bk r2 => pure (.nx r2)
        | .rt d => pure (.rt d)) S
def forM_ (mi : Env → M ItD) (g : D → Env → M Env) (body : Env → M Fl) : Env → M Fl := fun r => do
  let J ← mi r
  fun S => forN g body J (J.size S) 0 r S
theorem rs_for {tg iter : Expr} {body : List Stmt} {mi : Env → M ItD} {g : D → Env → M Env} (hp : PassesOwn (model X.prog X.w) X.A X.env X.xe) (hc : X.calm = true) (hi : RI X Γ E tg iter mi) (hg : RG X Γ E tg g) (hb : RSs X Γ E body mS)
    (hs : ∀ x, foldedSetIterable iter X.env x = pure x := by intro _; rfl) : RS X Γ E (.For tg iter body [] pos) (forM_ mi g mS) := by
  refine PS.weaken (ps_for hp hc hi hg hb hs) fun D σ H ⟨φ, r, S, s, q, p⟩ => ?_
  refine ⟨φ, r, S, s, q, (Post.bnd (rel := fun H φ => rI X.K H φ) p).imp fun j H1 ⟨φ1, S1, J, e1, s1, rj, p1⟩ => ?_⟩
  refine ⟨fun i m σ H => ∃ φ r S, Sim X.K Γ φ S H ∧ RelE X.K H φ r σ ∧ rI X.K H φ J j ∧ Post X.K Γ E (rF X.K) φ H (forN g mS J m i r S) (endQ D), ⟨J.size S1, φ1, r, S1, s1, q.mono e1, rj, p1⟩, ?_⟩
  rintro i m σ2 H2 ⟨φ2, r2, S2, s2, q2, rj2, p2⟩
  unfold forN at p2
  cases hJ : J.at i S2 with
  | none => simp only [hJ] at p2; exact p2.elim
  | some o =>
    cases o with
    | none =>
      simp only [hJ] at p2
      exact .inl ⟨rI.stop s2 rj2 hJ, p2.here (v := FV.nx σ2) s2 (.nx q2)⟩
    | some d =>
      simp only [hJ] at p2
      obtain ⟨go, yl⟩ := rI.go s2 rj2 hJ
      cases m with
      | zero => exact p2.elim
      | succ m =>
        simp only [] at p2
        refine .inr ⟨go, fun σ' H' => ∃ φ r S, Sim X.K Γ φ S H' ∧ RelE X.K H' φ r σ' ∧ rI X.K H' φ J j ∧ Post X.K Γ E (rF X.K) φ H' (forN g mS J m (i + 1) r S) (endQ D), fun σ' H' h => ⟨m, Nat.lt_succ_self _, h⟩, fun x H' hy => ?_⟩
        obtain ⟨rfl, rx⟩ := yl x H' hy
        refine ⟨φ2, r2, S2, d, s2, q2, rx, (Post.bnd (rel := rEn X.K) p2).imp fun σ3 H3 ⟨φ3, S3, r3, e3, s3, q3, p3⟩ => ?_⟩
        refine ⟨φ3, r3, S3, s3, q3, (Post.bnd (rel := rF X.K) p3).imp fun fv H4 ⟨φ4, S4, f, e4, s4, rf, p4⟩ => ?_⟩
        cases rf with
        | nx q4 => exact ⟨φ4, _, S4, s4, q4, rj2.mono (e3.trans e4), p4⟩
        | ct q4 => exact ⟨φ4, _, S4, s4, q4, rj2.mono (e3.trans e4), p4⟩
        | bk q4 => exact p4.val (v := FV.nx _) s4 (.nx q4)
        | rt rv => exact p4.val (v := FV.rt _) s4 (.rt rv)
/-- what is walked: a list, a tuple, a range -/
def itSeq (m : Env → M D) : Env → M ItD := fun r => do
  let d ← m r
  match d with
  | .ref n => fun S => match S[n]? with
    | some (.lst _) => .ok (.lst n) S
    | _ => .no
  | .fl xs => pure (.fl xs)
  | _ => stuck
def itTup (m : Env → M D) : Env → M ItD := fun r => do
  let d ← m r
  match d with
  | .tup xs => pure (.tup xs)
  | _ => stuck
theorem ri_lst {tg l : Expr} (h : RE X Γ E l ma) : RI X Γ E tg l (itSeq ma) := by
  refine PI.weaken (pi_list h) fun σ H R ⟨φ, r, S, s, q, p⟩ => ?_
  refine tE_bnd s q p fun φ1 S1 d v H1 e1 s1 q1 rv p1 => ?_
  cases d with
  | ref n =>
    cases rv with
    | ref hq =>
      simp only [] at p1
      cases hS : S1[n]? with
      | none => simp only [hS] at p1; exact p1.elim
      | some o =>
        cases o with
        | lst xs =>
          simp only [hS] at p1
          obtain ⟨vs, h1, _⟩ := sim_list s1 hq hS
          exact ⟨_, rfl, ⟨vs, SqL.of h1⟩, p1.here s1 (.lst hq)⟩
        | dK _ => simp only [hS] at p1; exact p1.elim
        | dT _ => simp only [hS] at p1; exact p1.elim
        | ins _ _ => simp only [hS] at p1; exact p1.elim
        | exo _ _ => simp only [hS] at p1; exact p1.elim
        | exd _ => simp only [hS] at p1; exact p1.elim
  | fl xs =>
    cases rv with
    | fl hF hr => exact ⟨_, rfl, ⟨_, hF.sq⟩, p1.val s1 (.fl hF hr)⟩
  | _ => exact p1.elim
theorem ri_tup {tg l : Expr} (h : RE X Γ E l ma) : RI X Γ E tg l (itTup ma) := by
  refine PI.weaken (pi_tup h) fun σ H R ⟨φ, r, S, s, q, p⟩ => ?_
  refine tE_bnd s q p fun φ1 S1 d v H1 e1 s1 q1 rv p1 => ?_
  cases d with
  | tup xs =>
    cases rv with
    | tup hT hr => exact ⟨_, rfl, ⟨_, hT⟩, p1.val s1 (.tup hT hr)⟩
  | _ => exact p1.elim
def itRng1 (mA : Env → M (List D)) : Env → M ItD := fun r => do
  let ds ← mA r
  match ds with
  | [.int j] => if -(2 ^ 62) ≤ j ∧ j < 2 ^ 62 then pure (.rng 0 j.toNat) else stuck
  | _ => stuck
def itRng2 (mA : Env → M (List D)) : Env → M ItD := fun r => do
  let ds ← mA r
  match ds with
  | [.int i, .int j] => if -(2 ^ 62) ≤ i ∧ i < 2 ^ 62 ∧ -(2 ^ 62) ≤ j ∧ j < 2 ^ 62 then pure (.rng i (j - i).toNat) else stuck
  | _ => stuck
theorem ri_rng1 {tg a : Expr} {mA : Env → M (List D)} {p : Pos} (hg : Gl X "range") (hm : X.mg "range" = none) (ha : RA X Γ E [a] mA) (hs : starEach [a] X.env = [(false, eval a X.env)] := by rfl) : RI X Γ E tg (.Call (.Name "range" p) [a] [] pos) (itRng1 mA) := by
  refine PI.weaken (pi_range1 hg hm ha hs) fun σ H R ⟨φ, r, S, s, q, p⟩ => ?_
  refine tA_bnd s q p fun φ1 S1 ds vs H1 e1 s1 q1 rv p1 => ?_
  match ds, rv, p1 with
  | [.int j], .cons (.int _) .nil, p1 =>
    obtain ⟨⟨h1, h2⟩, p2⟩ := Post.ite p1
    exact ⟨j, rfl, h1, h2, p2.val s1 (.rng 0 _)⟩
theorem ri_rng2 {tg a b : Expr} {mA : Env → M (List D)} {p : Pos} (hg : Gl X "range") (hm : X.mg "range" = none) (ha : RA X Γ E [a, b] mA) (hs : starEach [a, b] X.env = [(false, eval a X.env), (false, eval b X.env)] := by rfl) (hs2 : starEach [b] X.env = [(false, eval b X.env)] := by rfl) :
    RI X Γ E tg (.Call (.Name "range" p) [a, b] [] pos) (itRng2 mA) := by
  refine PI.weaken (pi_range2 hg hm ha hs hs2) fun σ H R ⟨φ, r, S, s, q, p⟩ => ?_
  refine tA_bnd s q p fun φ1 S1 ds vs H1 e1 s1 q1 rv p1 => ?_
  match ds, rv, p1 with
  | [.int i, .int j], .cons (.int _) (.cons (.int _) .nil), p1 =>
    obtain ⟨h1, p2⟩ := Post.ite p1
    exact ⟨i, j, rfl, h1, p2.val s1 (.rng i _)⟩
end

open PySem PySem.Spec PyProof.Rows L2

/-! ### slots wiped -/
theorem wipe_get (σ : Sl) : ∀ (vs : List Nat) (k : Nat), (wipe σ vs)[k]? = if k ∈ vs then (if k < σ.length then some none else none) else σ[k]?
  | [], k => by simp [wipe]
  | v :: vs, k => by
    unfold L2.wipe
    by_cases hk : v = k
    · subst hk
      have hm : v ∈ v :: vs := List.mem_cons_self
      rw [if_pos hm]
      by_cases hl : v < σ.length
      · rw [if_pos hl, List.getElem?_set_self (by rw [wipe_length]; exact hl)]
      · rw [if_neg hl, List.getElem?_eq_none (by simpa [wipe_length] using hl)]
    · rw [List.getElem?_set_ne hk, wipe_get σ vs k]
      have hm : k ∈ v :: vs ↔ k ∈ vs := by
        rw [List.mem_cons]
        exact ⟨fun h => h.elim (fun z => absurd z.symm hk) id, .inr⟩
      by_cases h : k ∈ vs
      · rw [if_pos h, if_pos (hm.mpr h)]
      · rw [if_neg h, if_neg (fun z => h (hm.mp z))]
theorem wipe_set {σ : Sl} {vs : List Nat} {i : Nat} (h : i ∈ vs) (v : Option V) : wipe (σ.set i v) vs = wipe σ vs := by
  apply List.ext_getElem?
  intro k
  rw [wipe_get, wipe_get, List.length_set]
  by_cases hk : k ∈ vs
  · rw [if_pos hk, if_pos hk]
  · rw [if_neg hk, if_neg hk, List.getElem?_set_ne (fun z => hk (by rw [← z]; exact h))]
theorem wipe_wipe (σ : Sl) (vs : List Nat) : wipe (wipe σ vs) vs = wipe σ vs := by
  apply List.ext_getElem?
  intro k
  rw [wipe_get, wipe_length]
  by_cases hk : k ∈ vs
  · rw [if_pos hk, wipe_get, if_pos hk]
  · rw [if_neg hk]

/-- a comprehension's target: only its own slots are written -/
def tGc (K : PySem.W.Frag) (Γ : Nat → Addr) (E : XK) (vs : List Nat) (g : D → Env → M Env) : TG := fun v σ H Q => ∃ φ r S d, Sim K Γ φ S H ∧ RelE K H φ r σ ∧ RelD K H φ d v ∧ Post K Γ E (fun H φ r' σ' => RelE K H φ r' σ' ∧ wipe σ' vs = wipe σ vs) φ H (g d r S) Q
def setAll : Env → List Nat → List D → Env
  | r, i :: is, d :: ds => setAll (r.set i (some d)) is ds
  | r, _, _ => r
def gTp (is : List Nat) : D → Env → M Env := fun d r => match d with
  | .tup ds => if ds.length = is.length then pure (setAll r is ds) else stuck
  | _ => stuck
def gNms : List Nat → TGs
  | [] => gNil
  | i :: is => gCons (gName i) (gNms is)
section
variable {X : Cx} {Γ : Nat → Addr} {E : XK} {a b c e elt : Expr} {es : List Expr} {ma mb mc me : Env → M D} {pos : Pos} {st : Stmt} {rest : List Stmt} {mS mS' : Env → M Fl}
theorem nms_of {K : PySem.W.Frag} {H : Hp} {φ : List Addr} {vs0 : List Nat} {Q : Sl → Hp → Prop} : ∀ {is : List Nat} {ds : List D} {vs : List V} {r : Env} {σ : Sl}, RelE K H φ r σ → RelDs K H φ ds vs → ds.length = is.length → (∀ i ∈ is, i ∈ vs0) →
    (∀ σ', RelE K H φ (setAll r is ds) σ' → wipe σ' vs0 = wipe σ vs0 → Q σ' H) → gNms is vs σ H Q
  | [], [], _, r, σ, q, .nil, _, _, k => ⟨rfl, k σ q rfl⟩
  | i :: is, d :: ds, _, r, σ, q, .cons rv rvs, hl, hi, k => ⟨_, _, rfl, nms_of (vs0 := vs0) (q.set i rv) rvs (by simpa using hl) (fun j hj => hi j (List.mem_cons_of_mem _ hj)) fun σ' q' w' => k σ' q' (by rw [w', wipe_set (hi i List.mem_cons_self)])⟩
theorem cg_name {i : Nat} {x : Str} (hN : X.N.Nodup) (hi : X.N[i]? = some x) (hx : Loc X.env.scope x) (hf : X.fn x = true ∨ X.env.scope.names.lookup x = some .local := by first | exact .inl rfl | exact .inr rfl | assumption) : PG X (.Name x pos) (tGc X.K Γ E [i] (gNm i)) :=
  PG.weaken (pg_name hN hi hx hf) fun v σ H Q ⟨φ, r, S, d, s, q, rd, p⟩ => p.val s ⟨q.set i rd, wipe_set (by simp) _⟩
theorem cg_tup {is : List Nat} {k : Nat} (hc : X.calm = true) (h : PGs X es (gNms is)) (hn : (assignEach es X.env).length = is.length := by rfl) (hst : (assignEach es X.env).findIdx? (·.1) = none := by rfl) : PG X (.Tuple es k pos) (tGc X.K Γ E is (gTp is)) := by
  refine PG.weaken (pg_tup hc h hn hst) fun v σ H Q ⟨φ, r, S, d, s, q, rd, p⟩ => ?_
  cases d with
  | tup ds =>
    cases rd with
    | tup hT hr =>
      obtain ⟨hl, p2⟩ := Post.ite p
      exact ⟨_, _, rfl, hT, by rw [← RelDs.length hr]; exact hl, nms_of (vs0 := is) q hr hl (fun _ z => z) fun σ' q' w => p2.val s ⟨q', w⟩⟩
  | _ => exact p.elim
theorem rg_tup {is : List Nat} {k : Nat} (hc : X.calm = true) (h : PGs X es (gNms is)) (hn : (assignEach es X.env).length = is.length := by rfl) (hst : (assignEach es X.env).findIdx? (·.1) = none := by rfl) : RG X Γ E (.Tuple es k pos) (gTp is) := by
  refine PG.weaken (pg_tup hc h hn hst) fun v σ H Q ⟨φ, r, S, d, s, q, rd, p⟩ => ?_
  cases d with
  | tup ds =>
    cases rd with
    | tup hT hr =>
      obtain ⟨hl, p2⟩ := Post.ite p
      exact ⟨_, _, rfl, hT, by rw [← RelDs.length hr]; exact hl, nms_of (vs0 := is) q hr hl (fun _ z => z) fun σ' q' w => p2.val s q'⟩
  | _ => exact p.elim

/-! ### list comprehensions -/
def compN (g : D → Env → M Env) (tst : Env → M Bool) (el : Env → M D) (J : ItD) (r0 : Env) : Nat → Nat → List D → M (List D)
  | n, i, acc => fun S => match J.at i S with
    | none => .no
    | some none => .ok acc S
    | some (some d) => match n with
      | 0 => .no
      | n + 1 => (do
        let r1 ← g d r0
        let c ← tst r1
        if c = true then (do
          let y ← el r1
          if acc.length < sizeLine then compN g tst el J r0 n (i + 1) (acc ++ [y]) else stuck)
        else compN g tst el J r0 n (i + 1) acc) S
def lcM (own : List Nat) (mi : Env → M ItD) (g : D → Env → M Env) (tst : Env → M Bool) (el : Env → M D) : Env → M D := fun r => do
  let J ← mi r
  let acc ← (fun S => compN g tst el J (wipeE r own) (J.size S) 0 [] S)
  newO (.lst acc)
def compB (g : D → Env → M Env) (tst : Env → M Bool) (el : Env → M D) (J : ItD) (r0 : Env) (n i : Nat) (acc : List D) (d : D) : M (List D) := do
  let r1 ← g d r0
  let c ← tst r1
  if c = true then (do
    let y ← el r1
    if acc.length < sizeLine then compN g tst el J r0 n (i + 1) (acc ++ [y]) else stuck)
  else compN g tst el J r0 n (i + 1) acc
theorem compN_stuck {g : D → Env → M Env} {tst : Env → M Bool} {el : Env → M D} {J : ItD} {r0 : Env} {n i : Nat} {acc : List D} {S : Sto} (h : J.at i S = none) : compN g tst el J r0 n i acc S = .no := by
  cases n <;> (unfold compN; rw [h])
theorem compN_end {g : D → Env → M Env} {tst : Env → M Bool} {el : Env → M D} {J : ItD} {r0 : Env} {n i : Nat} {acc : List D} {S : Sto} (h : J.at i S = some none) : compN g tst el J r0 n i acc S = .ok acc S := by
  cases n <;> (unfold compN; rw [h])
theorem compN_zero {g : D → Env → M Env} {tst : Env → M Bool} {el : Env → M D} {J : ItD} {r0 : Env} {i : Nat} {acc : List D} {S : Sto} {d : D} (h : J.at i S = some (some d)) : compN g tst el J r0 0 i acc S = .no := by
  unfold compN; rw [h]
theorem compN_item {g : D → Env → M Env} {tst : Env → M Bool} {el : Env → M D} {J : ItD} {r0 : Env} {n i : Nat} {acc : List D} {S : Sto} {d : D} (h : J.at i S = some (some d)) : compN g tst el J r0 (n + 1) i acc S = compB g tst el J r0 n i acc d S := by
  rw [compN]
  simp only [h]
  rfl
theorem bnd_congr {α β : Type} {m m' : M α} {f : α → M β} {S : Sto} (h : m S = m' S) : (m >>= f) S = (m' >>= f) S := by
  rw [bind_def, bind_def, h]
theorem bnd_assoc {α β γ : Type} {m : M α} {f : α → M β} {g : β → M γ} {S : Sto} : ((m >>= f) >>= g) S = (m >>= fun a => f a >>= g) S := by
  simp only [bind_def]
  cases m S <;> rfl
abbrev RTs (X : Cx) (Γ : Nat → Addr) (E : XK) (ifs : List Expr) (m : Env → M Bool) : Prop := PTs X ifs (tT X.K Γ E m)
def yesM : Env → M Bool := fun _ => pure true
theorem rts_nil : RTs X Γ E [] yesM := ⟨fun pins s σ H Q I ⟨φ, r, S, sm, q, p⟩ => pts_nil.run pins s σ H Q I (p.val (v := true) sm rfl)⟩
theorem rts_one {t : Env → M Bool} (h : RT X Γ E c t) : RTs X Γ E [c] t := pts_one h
theorem lc_to {K : PySem.W.Frag} {own : List Nat} {mi : Env → M ItD} {g : D → Env → M Env} {tst : Env → M Bool} {el : Env → M D} {σ : Sl} {H : Hp} {Q : VK} (h : tE K Γ E (lcM own mi g tst el) σ H Q) :
    tLc (tIt K Γ E mi) (tGc K Γ E own g) (tT K Γ E tst) (tE K Γ E el) own σ H Q := by
  obtain ⟨φ, r, S, s, q, p⟩ := h
  refine ⟨φ, r, S, s, q, (Post.bnd (rel := fun H φ => rI K H φ) p).imp fun j H1 ⟨φ1, S1, J, e1, s1, rj, p1⟩ => ?_⟩
  intro D hD
  have q1 := q.mono e1
  refine ⟨fun i m H => ∃ φ S acc vacc, Ext K φ1 H1 φ H ∧ Sim K Γ φ S H ∧ D ∉ φ ∧ H D = some (.lst vacc) ∧ RelDs K H φ acc vacc ∧ rI K H φ J j ∧ RelE K H φ (wipeE r own) (wipe σ own) ∧
    Post K Γ E (rD K) φ1 H1 ((compN g tst el J (wipeE r own) m i acc >>= fun acc => newO (.lst acc)) S) Q, ⟨J.size S1, φ1, S1, [], [], Ext.new0 hD, s1.hide hD, s1.fresh hD, upd_same, .nil, rj.mono (Ext.new0 hD), (q1.mono (Ext.new0 hD)).wipe own, p1⟩, ?_⟩
  rintro i m H2 ⟨φ2, S2, acc, vacc, e2, s2, n2, hD2, ra, rj2, q2, p2⟩
  cases hJ : J.at i S2 with
  | none =>
    rw [bnd_congr (m' := stuck) (compN_stuck hJ)] at p2
    exact p2.elim
  | some o =>
    cases o with
    | none =>
      rw [bnd_ok (compN_end hJ)] at p2
      refine .inl ⟨rI.stop s2 rj2 hJ, ?_⟩
      have gr : Gr K φ2 H2 (φ2 ++ [D]) H2 := ⟨⟨[D], rfl⟩, fun _ _ h => h, fun _ _ h => h⟩
      refine p2 (φ2 ++ [D]) H2 (.ref D) ?_ (s2.unhide n2 ⟨vacc, hD2, RelDs.mono0 gr _ _ ra⟩ (.inl gr)) (.ref (by rw [← s2.len, List.getElem?_append_right (Nat.le_refl _)]; simp))
      refine ⟨⟨?_, e2.tup, e2.frl⟩, fun b u hb nb => ?_⟩
      · obtain ⟨t, ht⟩ := e2.pre
        exact ⟨t ++ [D], by rw [ht, List.append_assoc]⟩
      · obtain ⟨h1, h2⟩ := e2.hid b u hb nb
        refine ⟨h1, fun z => ?_⟩
        rcases List.mem_append.mp z with z | z
        · exact h2 z
        · have zz : b = D := by simpa using z
          rw [zz, hD] at hb
          cases hb
    | some d =>
      obtain ⟨go, yl⟩ := rI.go s2 rj2 hJ
      cases m with
      | zero =>
        rw [bnd_congr (m' := stuck) (compN_zero hJ)] at p2
        exact p2.elim
      | succ m =>
        rw [bnd_congr (compN_item hJ), compB, bnd_assoc] at p2
        refine .inr ⟨go, fun H => ∃ φ S acc vacc, Ext K φ1 H1 φ H ∧ Sim K Γ φ S H ∧ D ∉ φ ∧ H D = some (.lst vacc) ∧ RelDs K H φ acc vacc ∧ rI K H φ J j ∧ RelE K H φ (wipeE r own) (wipe σ own) ∧
          Post K Γ E (rD K) φ1 H1 ((compN g tst el J (wipeE r own) m (i + 1) acc >>= fun acc => newO (.lst acc)) S) Q, fun H' h => ⟨m, Nat.lt_succ_self _, h⟩, fun x H' hy => ?_⟩
        obtain ⟨rfl, rx⟩ := yl x H' hy
        refine ⟨φ2, wipeE r own, S2, d, s2, q2, rx, (Post.bnd0 (rel := fun H φ r' σ' => RelE K H φ r' σ' ∧ wipe σ' own = wipe (wipe σ own) own) e2 p2).imp fun σ3 H3 ⟨φ3, S3, r3, e3, s3, ⟨q3, w3⟩, p4⟩ => ?_⟩
        rw [bnd_assoc] at p4
        refine ⟨by rw [w3, wipe_wipe], φ3, r3, S3, s3, q3, (Post.bnd0 (rel := rB) (e2.trans e3) p4).imp fun b H4 ⟨φ4, S4, c, e4, s4, rc, p5⟩ => ?_⟩
        cases rc
        cases b with
        | false =>
          rw [if_neg Bool.false_ne_true] at p5 ⊢
          have e24 := e3.trans e4
          obtain ⟨hD4, n4⟩ := e24.hid D _ hD2 n2
          exact ⟨φ4, S4, acc, vacc, e2.trans e24, s4, n4, hD4, RelDs.mono e24 _ _ ra, rj2.mono e24, q2.mono e24, p5⟩
        | true =>
          rw [if_pos rfl] at p5 ⊢
          rw [bnd_assoc] at p5
          refine ⟨φ4, r3, S4, s4, q3.mono e4, (Post.bnd0 (rel := rD K) (e2.trans (e3.trans e4)) p5).imp fun y H5 ⟨φ5, S5, dy, e5, s5, ry, p8⟩ => ?_⟩
          have e25 := e3.trans (e4.trans e5)
          obtain ⟨hD5, n5⟩ := e25.hid D _ hD2 n2
          by_cases hz : acc.length < sizeLine
          · rw [if_pos hz] at p8
            have mu : Mut (H5 D) := by rw [hD5]; trivial
            obtain ⟨s6, kD⟩ := s5.hid (ho := .lst (vacc ++ [y])) n5 mu
            have kT : ∀ a vs, SqT K H5 a vs → SqT K (upd H5 D (.lst (vacc ++ [y]))) a vs := fun _ _ h => sqT_upd_mut mu h
            have kF : ∀ a vs, FrL K H5 a vs → FrL K (upd H5 D (.lst (vacc ++ [y]))) a vs := fun _ _ h => frl_upd (.inr mu) h
            have gr : Gr K φ5 H5 φ5 (upd H5 D (.lst (vacc ++ [y]))) := ⟨⟨[], by simp⟩, kT, kF⟩
            have rj5 := rj2.mono e25
            have q5 := q2.mono e25
            refine ⟨vacc, hD5, by rw [← RelDs.length ra]; exact hz, φ5, S5, acc ++ [dy], vacc ++ [y], ?_, s6, n5, upd_same, RelDs.app (RelDs.mono0 gr _ _ (RelDs.mono e25 _ _ ra)) (.cons (kD _ _ ry) .nil), ?_, ?_, p8⟩
            · have e15 := e2.trans e25
              refine ⟨⟨e15.pre, fun x vs h => kT x vs (e15.tup x vs h), fun x vs h => kF x vs (e15.frl x vs h)⟩, fun b u hb nb => ?_⟩
              obtain ⟨h1, h2⟩ := e15.hid b u hb nb
              have ne : b ≠ D := fun z => by rw [z, hD] at hb; cases hb
              rw [upd_ne ne]
              exact ⟨h1, h2⟩
            · cases rj5 with
              | tup x y => exact .tup (kT _ _ x) (RelDs.mono0 gr _ _ y)
              | lst x => exact .lst x
              | fl x y => exact .fl (kF _ _ x) (RelDs.mono0 gr _ _ y)
              | rng lo k => exact .rng lo k
              | str x => exact .str x
            · exact ⟨q5.len, fun i d h => let ⟨v, h1, h2⟩ := q5.at_ i d h; ⟨v, h1, kD _ _ h2⟩⟩
          · rw [if_neg hz] at p8
            exact p8.elim
theorem re_lc {tg iter : Expr} {ifs : List Expr} {scope : Scope} {own : List (Str × Nat)} {mi : Env → M ItD} {g : D → Env → M Env} {tst : Env → M Bool} (hc : X.calm = true) (hN : X.N.Nodup) (hi : RI X Γ E tg iter mi) (ok : BlkOk X.N X.env.scope scope own)
    (hg : ∀ (s : Shared) (H : Hp) (C : Addr) (cl : List (Str × Addr)) (fp : List Addr), PG (X.blk s H scope (compEnvC scope cl C X.env) fp) tg (tGc X.K Γ E (own.map (·.2)) g))
    (ht : ∀ (s : Shared) (H : Hp) (C : Addr) (cl : List (Str × Addr)) (fp : List Addr), RTs (X.blk s H scope (compEnvC scope cl C X.env) fp) Γ E ifs tst)
    (he : ∀ (s : Shared) (H : Hp) (C : Addr) (cl : List (Str × Addr)) (fp : List Addr), RE (X.blk s H scope (compEnvC scope cl C X.env) fp) Γ E elt me) (hs : ∀ x, foldedSetIterable iter X.env x = pure x := by intro _; rfl) :
    RE X Γ E (.ListComp elt [⟨tg, iter, ifs, 0⟩] scope pos) (lcM (own.map (·.2)) mi g tst me) :=
  PE.weaken (pe_lc hc hN hi ok hg ht he hs) fun σ H Q h => lc_to h
theorem rs_setLc {i : Nat} {y : Str} {py spos : Pos} {tg iter : Expr} {ifs : List Expr} {scope : Scope} {own : List (Str × Nat)} {mi : Env → M ItD} {g : D → Env → M Env} {tst : Env → M Bool} (hc : X.calm = true) (hN : X.N.Nodup) (hy : X.N[i]? = some y) (hyl : X.env.scope.names.lookup y = some .local)
    (hsw : swapsWith (.ListComp elt [⟨tg, iter, ifs, 0⟩] scope pos) (some (.Name y py)) spos.line X.env = pure true) (hi : RI X Γ E tg iter mi) (ok : BlkOk X.N X.env.scope scope own)
    (hg : ∀ (s : Shared) (H : Hp) (C : Addr) (cl : List (Str × Addr)) (fp : List Addr), PG (X.blk s H scope (compEnvC scope cl C X.env) fp) tg (tGc X.K Γ E (own.map (·.2)) g))
    (ht : ∀ (s : Shared) (H : Hp) (C : Addr) (cl : List (Str × Addr)) (fp : List Addr), RTs (X.blk s H scope (compEnvC scope cl C X.env) fp) Γ E ifs tst)
    (he : ∀ (s : Shared) (H : Hp) (C : Addr) (cl : List (Str × Addr)) (fp : List Addr), RE (X.blk s H scope (compEnvC scope cl C X.env) fp) Γ E elt me) (hs : ∀ x, foldedSetIterable iter X.env x = pure x := by intro _; rfl) :
    RS X Γ E (.Assign [.Name y py] (.ListComp elt [⟨tg, iter, ifs, 0⟩] scope pos) spos) (asgM (lcM (own.map (·.2)) mi g tst me) (gNm i)) := by
  refine PS.weaken (ps_setLc (tt := tT X.K Γ E tst) (te := tE X.K Γ E me) hc hN hy hyl hsw hi ok hg ht he hs) fun D σ H h => ?_
  have h2 : tE X.K Γ E (lcM (own.map (·.2)) mi g tst me) σ H fun x H1 => gName i x σ H1 D.nx := tE_imp (asg_to h) fun v H' q => gName_of q
  exact lc_to h2

/-! ### a def -/
def fnM (n : Nat) (m : Env → M Fl) : List D → M D := fun ds => do
  let f ← m (ds.map some ++ List.replicate (n - ds.length) none)
  match f with
  | .rt d => pure d
  | .nx _ => pure .non
  | _ => stuck
theorem relE_start {K : PySem.W.Frag} {H : Hp} {φ : List Addr} {ds : List D} {vs : List V} (N : List Str) (h : RelDs K H φ ds vs) : RelE K H φ (ds.map some ++ List.replicate (N.length - ds.length) none) (start N vs) := by
  unfold L2.start
  have hl := RelDs.length h
  refine ⟨by simp [hl], fun i d z => ?_⟩
  by_cases hi : i < ds.length
  · rw [List.getElem?_append_left (by simpa using hi), List.getElem?_map] at z
    cases hd : ds[i]? with
    | none => rw [hd] at z; cases z
    | some d' =>
      rw [hd] at z
      cases z
      obtain ⟨v, h1, h2⟩ := RelDs.get h hd
      exact ⟨v, by rw [List.getElem?_append_left (by simpa [← hl] using hi), List.getElem?_map, h1]; rfl, h2⟩
  · rw [List.getElem?_append_right (by simpa using hi)] at z
    rw [List.getElem?_replicate] at z
    split at z <;> cases z
variable {P : Program} {w : World} {K : PySem.W.Frag} {mg : Str → Option Value} {base : Heap}
theorem fn_okM {x qual : Str} {st : Stmt} {f : Addr} {fd : FuncData} {N ps : List Str} {k : Nat} {m : Env → M Fl} (F : Fun K x qual st f fd) (sc : FnScope N ps (defScope st))
    (hbody : ∀ (cdv : Value) (A : Around) (outer : List PySem.Env) (s : Shared) (H : Hp) (E : XK), Room k (A.deeper (envOfC qual (defScope st) s.heap.objs.size f cdv)) → RSs (cxOf CX0 P w K mg base N qual (defScope st) f cdv A outer s H E).nox Γ E (defBody st) m) :
    FnOk P w K mg base CX0 (k + 1) f fd ps (spM K Γ ps.length (fnM N.length m)) := by
  refine F.ok sc (fun vs H Q E h => h.1) (fun cdv A outer s H vs Q E hr h => ⟨_, hbody cdv A outer s H E hr, ?_⟩)
  obtain ⟨_, φ, S, ds, sm, rv, p⟩ := h
  refine ⟨φ, _, S, sm, relE_start N rv, (Post.bnd (rel := rF K) p).imp fun fv H1 ⟨φ1, S1, fl, e1, s1, rf, p1⟩ => ?_⟩
  cases rf with
  | nx q => exact p1.val (v := V.non) s1 .non
  | rt rv => exact p1.val s1 rv
  | bk q => exact p1.elim
  | ct q => exact p1.elim
end

open PySem PySem.Spec PyProof.Rows L2

/-! ### a def's promise where no repr is under way -/
def Quiet (A : Around) : Prop := A.guards = some []
structure FnG (P : Program) (w : World) (K : PySem.W.Frag) (mg : Str → Option Value) (base : Heap) (CX : CXT) (k : Nat) (f : Addr) (fd : FuncData) (ps : List Str) (sp : Sp) : Prop where
  few : ∀ vs H Q E, sp vs H Q E → vs.length = ps.length
  go : ∀ (A : Around) (fr : List PySem.Env) (s : Shared) (H : Hp) (args : Args) (us : List Value) (vs : List V) (Q : VK) (E : XK), Quiet A → Room k A → Env0 P w K mg base A fr s H → BindsTo s fd args (ps.zip us) → Vals vs us → sp vs H Q E →
    codeAny (model P w) A (.call (.ref f) args) (CR CX fr P w H s Q E) s
theorem FnG.up {P : Program} {w : World} {K : PySem.W.Frag} {mg : Str → Option Value} {base : Heap} {CX : CXT} {j k : Nat} {f : Addr} {fd : FuncData} {ps : List Str} {sp : Sp} (F : FnG P w K mg base CX j f fd ps sp) (h : j ≤ k) : FnG P w K mg base CX k f fd ps sp :=
  ⟨F.few, fun A fr s H args us vs Q E hq hr => F.go A fr s H args us vs Q E hq (hr.mono h)⟩
section
variable {X : Cx} {Γ : Nat → Addr} {E : XK} {e : Expr} {es : List Expr} {pos p : Pos} {x : Str} {CX : CXT} {k n : Nat} {f : Addr} {fd : FuncData} {ps : List Str} {sp : Sp} {mA : Env → M (List D)}
theorem call_G {pins : List (Addr × Obj)} {σ : Sl} {H : Hp} {s : Shared} {Q : VK} {us : List Value} {vs : List V} (F : FnG X.prog X.w X.K X.mg X.base CX k f fd ps sp) (hq : Quiet X.A) (hr : Room k X.A) (hb : Binds X.K fd ps []) (hx : Passes CX X E)
    (I : Inv X pins σ H s) (r : Vals vs us) (h : sp vs H Q E) : wpAny (model X.prog X.w) X.A (call (.ref f) us) (EP X pins σ Q) X.xe s := by
  have hl : us.length = ps.length := by rw [← r.length]; exact F.few _ _ _ _ h
  have b := hb s us I.kIn (by simpa using hl)
  rw [List.append_nil] at b
  refine wpAny_call (codeAny_mono (F.go X.A X.stack s H ⟨us, []⟩ us vs Q E hq hr I.env0 b r h) fun res s' q => ?_)
  match res, q with
  | .error ev, q => exact hx pins σ H s ev s' I q
  | .ok (.ret u), q => exact I.after q
theorem pe_callG (F : FnG X.prog X.w X.K X.mg X.base CX k f fd ps sp) (hq : Quiet X.A) (hr : Room k X.A) (hg : Gl X x) (hm : X.mg x = some (.ref f)) (hk : PySem.W.keepIn X.K (.ref f) = true) (hb : Binds X.K fd ps []) (hx : Passes CX X E) {t : TA} (ha : PA X (e :: es) t)
    (hdb : (x == ("__debug__" : Str)) = false := by decide) (he : starEach (e :: es) X.env = (false, eval e X.env) :: starEach es X.env := by rfl) (hpl : (backTo pos (starEach es X.env)).any (·.1) = false := by rfl) :
    PE X (.Call (.Name x p) (e :: es) [] pos) (fun σ H Q => t σ H fun vs H1 => sp vs H1 Q E) := by
  refine ⟨fun pins s σ H Q I h => wpAny_Call_Name_kw (ld_glob I hg hm ?_ hdb)⟩
  refine PySem.W.callWith_K (h₀ := X.base) I.ok.mod.kin hk (thn (ha.run pos pins s σ H _ I h) fun us s1 z => ?_) he hpl
  obtain ⟨vs, H1, I1, r, q⟩ := z
  exact ⟨I1.kIn, call_G F hq hr hb hx I1 r q⟩
theorem pe_callG0 (F : FnG X.prog X.w X.K X.mg X.base CX k f fd ps sp) (hq : Quiet X.A) (hr : Room k X.A) (hg : Gl X x) (hm : X.mg x = some (.ref f)) (hk : PySem.W.keepIn X.K (.ref f) = true) (hb : Binds X.K fd ps []) (hx : Passes CX X E)
    (hdb : (x == ("__debug__" : Str)) = false := by decide) : PE X (.Call (.Name x p) [] [] pos) (fun σ H Q => sp [] H Q E) := by
  refine ⟨fun pins s σ H Q I h => wpAny_Call_Name_kw (ld_glob I hg hm ?_ hdb)⟩
  exact PySem.W.callWith_K0 I.kIn hk (call_G (us := []) F hq hr hb hx I .nil h)
theorem sp_of {mf : List D → M D} {φ : List Addr} {r : Env} {S : Sto} {σ : Sl} {H : Hp} {Q : VK} (hl : ∀ r S ds S', mA r S = .ok ds S' → ds.length = n) (s : Sim X.K Γ φ S H) (q : RelE X.K H φ r σ) (p : Post X.K Γ E (rD X.K) φ H (clM mf mA r S) Q) :
    tA X.K Γ E mA σ H fun vs H1 => spM X.K Γ n mf vs H1 Q E := by
  refine ⟨φ, r, S, s, q, ?_⟩
  have p' : Post X.K Γ E (rD X.K) φ H ((mA r >>= mf) S) Q := p
  cases hm : mA r S with
  | ok ds S1 =>
    rw [bnd_ok hm] at p'
    exact fun φ1 H1 vs e1 s1 rv => ⟨by rw [← RelDs.length rv]; exact hl r S ds S1 hm, φ1, S1, ds, s1, rv, p'.mono e1⟩
  | err c fs S1 =>
    rw [bind_def, hm] at p'
    exact p'
  | no =>
    rw [bind_def, hm] at p'
    exact p'
theorem re_callG {mf : List D → M D} (F : FnG X.prog X.w X.K X.mg X.base CX k f fd ps (spM X.K Γ n mf)) (hq : Quiet X.A) (hr : Room k X.A) (hg : Gl X x) (hm : X.mg x = some (.ref f)) (hk : PySem.W.keepIn X.K (.ref f) = true) (hb : Binds X.K fd ps []) (hx : Passes CX X E)
    (ha : RA X Γ E (e :: es) mA) (hl : ∀ r S ds S', mA r S = .ok ds S' → ds.length = n) (hdb : (x == ("__debug__" : Str)) = false := by decide) (he : starEach (e :: es) X.env = (false, eval e X.env) :: starEach es X.env := by rfl) (hpl : (backTo pos (starEach es X.env)).any (·.1) = false := by rfl) :
    RE X Γ E (.Call (.Name x p) (e :: es) [] pos) (clM mf mA) :=
  PE.weaken (pe_callG F hq hr hg hm hk hb hx ha hdb he hpl) fun σ H Q ⟨φ, r, S, s, q, p⟩ => sp_of hl s q p
theorem re_callG0 {mf : List D → M D} (F : FnG X.prog X.w X.K X.mg X.base CX k f fd ps (spM X.K Γ 0 mf)) (hq : Quiet X.A) (hr : Room k X.A) (hg : Gl X x) (hm : X.mg x = some (.ref f)) (hk : PySem.W.keepIn X.K (.ref f) = true) (hb : Binds X.K fd ps []) (hx : Passes CX X E)
    (hdb : (x == ("__debug__" : Str)) = false := by decide) : RE X Γ E (.Call (.Name x p) [] [] pos) (clM mf nilA) :=
  PE.weaken (pe_callG0 F hq hr hg hm hk hb hx hdb) fun σ H Q ⟨φ, r, S, s, q, p⟩ => ⟨rfl, φ, S, [], s, .nil, p⟩
variable {P : Program} {w : World} {K : PySem.W.Frag} {mg : Str → Option Value} {base : Heap}
/-- the rule for a def, any body -/
theorem fn_G {qual : Str} {st : Stmt} {N : List Str} {nm : Str} (F : Fun K nm qual st f fd) (sc : FnScope N ps (defScope st)) (few : ∀ vs H Q E, sp vs H Q E → vs.length = ps.length)
    (hbody : ∀ (cdv : Value) (A : Around) (fr : List PySem.Env) (s : Shared) (H : Hp) (vs : List V) (Q : VK) (E : XK), Quiet (A.deeper (envOfC qual (defScope st) s.heap.objs.size f cdv)) → Room k (A.deeper (envOfC qual (defScope st) s.heap.objs.size f cdv)) → sp vs H Q E →
      ∃ t, PSs (cxOf CX P w K mg base N qual (defScope st) f cdv A fr s H E) (defBody st) t ∧ t { nx := fun _ H' => Q .non H', rt := Q } (L2.start N vs) H) : FnG P w K mg base CX (k + 1) f fd ps sp := by
  obtain ⟨oc, od, kV, doc, pm, an, cdv, ct, osl, rfl, lk, hcd⟩ := F.ex
  refine ⟨few, fun A fr s H args us vs Q E hq hr e0 hb r hsp => ?_⟩
  have hl := few _ _ _ _ hsp
  have hkind : ∀ y ∈ ps.zip us, (defScope st).names.lookup y.1 = some .local ∨ ((defScope st).names.lookup y.1 = some .cell ∧ ((cellsFrom (s.heap.objs.size + 1) (defScope st).names []).lookup y.1).isSome = true) := by
    rintro ⟨z, v⟩ hy
    exact (sc.par z (List.of_mem_zip hy).1).imp id fun q => ⟨q, PySem.W.cellsFrom_some _ _ _ (.inl q)⟩
  have lim : s.heap.NoLimit := e0.mod.nolimit.keeps fun b o z => (e0.bs b o z).1
  have KX : K.In s.heap := e0.mod.kin.keeps fun b o z => (e0.bs b o z).1
  refine codeAny_call_function hr.depth (KX _ _ lk) rfl sc.co sc.gen rfl (PySem.W.codeRec_of KX hcd) (hb _ _ _ _ (wpAny_newFunctionEnv_cells sc.kind hkind fun env he s1 x => ?_))
  subst he
  refine ⟨lim.keeps x.toInCall.keep, codeAny_func ?_⟩
  obtain ⟨t, ht, hqq⟩ := hbody cdv A fr s H vs Q E hq (hr.deeper _) hsp
  refine wpAny_mono (ht.run [] s1 (L2.start N vs) H _ (inv_start sc hr.hd e0 hl r x) hqq) (fun fl s' hs => ?_) fun _ _ hs => hs
  have done : ∀ {σ' : Sl} {H' : Hp} {v : V} {u : Value}, Inv (cxOf CX P w K mg base N qual (defScope st) f cdv A fr s H E) [] σ' H' s' → RelV v u → Q v H' → CE fr P w H s Q u s' := fun {σ' H' v u} J rv q => ⟨v, H', J.os, J.bare, J.base, J.hok, rv, q⟩
  cases fl with
  | ret u =>
    obtain ⟨v, σ', H', J, rv, q⟩ := hs
    exact done J rv q
  | next =>
    obtain ⟨σ', H', J, q⟩ := hs
    exact done (v := V.non) (u := Value.none) J rfl q
  | brk =>
    obtain ⟨_, _, _, q⟩ := hs
    exact False.elim q
  | cont =>
    obtain ⟨_, _, _, q⟩ := hs
    exact False.elim q
theorem fn_okG {nm qual : Str} {st : Stmt} {N : List Str} {m : Env → M Fl} (F : Fun K nm qual st f fd) (sc : FnScope N ps (defScope st))
    (hbody : ∀ (cdv : Value) (A : Around) (fr : List PySem.Env) (s : Shared) (H : Hp) (E : XK), Quiet (A.deeper (envOfC qual (defScope st) s.heap.objs.size f cdv)) → Room k (A.deeper (envOfC qual (defScope st) s.heap.objs.size f cdv)) → RSs (cxOf CX0 P w K mg base N qual (defScope st) f cdv A fr s H E).nox Γ E (defBody st) m) :
    FnG P w K mg base CX0 (k + 1) f fd ps (spM K Γ ps.length (fnM N.length m)) := by
  refine fn_G F sc (fun vs H Q E h => h.1) (fun cdv A fr s H vs Q E hq hr h => ⟨_, PSs.nox (hbody cdv A fr s H E hq hr), ?_⟩)
  obtain ⟨_, φ, S, ds, sm, rv, p⟩ := h
  refine ⟨φ, _, S, sm, relE_start N rv, (Post.bnd (rel := rF K) p).imp fun fv H1 ⟨φ1, S1, fl, e1, s1, rf, p1⟩ => ?_⟩
  cases rf with
  | nx q => exact p1.val (v := V.non) s1 .non
  | rt rv => exact p1.val s1 rv
  | bk q => exact p1.elim
  | ct q => exact p1.elim
end

/-- the interpreter's own dict of modules stands -/
def SysIn (base : Heap) : Prop := ∃ m, base.Ns sysModules m

/-! ### the end: the law's own call -/
section
variable {P : Program} {w : World} {K : PySem.W.Frag} {mg mb : Str → Option Value} {Γ : Nat → Addr}
/-- the script's list, by the heap: frozen at a, or an object of the module -/
theorem script_H {h : Heap} {a : Addr} {vs : List Value} {ns : List Int} (KX : K.In h) (ha : h.get? a = some { cls := .type "list", data := .seq vs.toArray }) (hi : IntsAre vs ns) (hl : ns.length ≤ sizeLine) :
    ∃ H : Hp, HOk P w H h ∧ (∀ b, H b ≠ none → b = a) ∧ (H a ≠ none → K.lookup a = none) ∧ (∀ b u, H b = some u → ∃ ys, u = .frz { cls := .type "list", data := .seq vs.toArray } (.lst ys)) ∧ FrL K H a (ns.map V.int) := by
  have rv := vals_ints hi
  have hlen := hi.length
  cases hk : K.lookup a with
  | some o =>
    have e := KX a o hk
    rw [ha] at e
    cases e
    exact ⟨fun _ => none, fun b u z => absurd z (by simp), fun b z => absurd rfl z, fun z => absurd rfl z, fun b u z => absurd z (by simp), .inr ⟨_, vs.toArray, _, hk, rfl, rfl, rfl, by rw [List.size_toArray, hlen]; exact hl, by simpa using rv⟩⟩
  | none =>
    have hH : ∀ b u, (fun b => if b = a then some (HO.frz { cls := .type "list", data := .seq vs.toArray } (.lst (ns.map V.int))) else none) b = some u → b = a ∧ u = .frz { cls := .type "list", data := .seq vs.toArray } (.lst (ns.map V.int)) := fun b u z => by
      by_cases hb : b = a
      · have z' := (if_pos hb).symm.trans z
        exact ⟨hb, (Option.some.inj z').symm⟩
      · have z' := (if_neg hb).symm.trans z
        cases z'
    refine ⟨_, fun b u z => ?_, fun b z => ?_, fun _ => rfl, fun b u z => ⟨_, (hH b u z).2⟩, .inl ⟨_, if_pos rfl⟩⟩
    · obtain ⟨rfl, rfl⟩ := hH b u z
      exact ⟨ha, by rw [List.length_map]; exact hl, vs, _, rv, ha⟩
    · obtain ⟨u, hu⟩ := Option.ne_none_iff_exists'.mp z
      exact (hH b u hu).1
theorem law_G {k : Nat} {fa a : Addr} {fd : FuncData} {x : Str} {mf : List D → M D} {s : Shared} {vs : List Value} {ns : List Int} (KX : K.In s.heap) (hns : s.heap.Ns mainGlobals mg) (hb : s.heap.Ns builtinsNs mb) (hbb : ∀ x : Str, x ≠ "__name__" → mb x = bootBuiltins x)
    (hlim : s.heap.NoLimit) (hsy : SysIn s.heap) (hg : s.gens = #[]) (ha : s.heap.get? a = some { cls := .type "list", data := .seq vs.toArray }) (hi : IntsAre vs ns) (hl : ns.length ≤ sizeLine) (hr : Room k callerA)
    (F : ∀ base : Heap, K.In base → base.Ns mainGlobals mg → SysIn base → FnG P w K mg base CX0 k fa fd [x] (spM K Γ 1 mf)) (hbind : ∀ (s : Shared) (u : Value), BindsTo s fd ⟨[u], []⟩ [(x, u)])
    (hm : ∃ S', mf [.fl (ns.map D.int)] [] = .ok (.bl true) S') :
    codeAny (model P w) callerA (.call (.ref fa) ⟨[.ref a], []⟩) (fun r s' => r = .ok (.ret (.bool true)) ∧ OldK s.heap s'.heap ∧ s'.os = s.os ∧ AllBare s'.gens) s := by
  obtain ⟨H, hok, hA, hK, hF, hfr⟩ := script_H (P := P) (w := w) KX ha hi hl
  -- what is no dict and not of the module is not hidden from the base
  have clear : ∀ {b : Addr} {o : Obj}, s.heap.get? b = some o → (∀ u, H b = some u → False) → (hidT s.heap H).get? b = some o := fun {b o} e q => hidT_get e (by
    cases z : H b with
    | none => rfl
    | some u => exact (q u z).elim)
  have only : ∀ {b : Addr} {u : HO}, H b = some u → b = a := fun {b u} z => hA b (by rw [z]; simp)
  have nsK : ∀ {b : Addr} {m : Str → Option Value}, s.heap.Ns b m → (hidT s.heap H).Ns b m := fun {b m} ⟨o, es, ep, e, d, r⟩ => ⟨o, es, ep, clear e (fun u z => by
    rw [only z, ha] at e
    cases e
    cases d), d, r⟩
  have hKb : K.In (hidT s.heap H) := fun b o e => clear (KX b o e) fun u z => by
    have hba := only z
    rw [hba, hK (by rw [← hba, z]; simp)] at e
    cases e
  have e0 : Env0 P w K mg (hidT s.heap H) callerA [] s H := ⟨rfl, ⟨hKb, nsK hns, ⟨mb, nsK hb, hbb⟩, let ⟨mc, h1, h2⟩ := hlim; ⟨mc, nsK h1, h2⟩⟩, fun b o e => of_hidT e, Nat.le_of_eq (hidT_size _ _), trivial, fun b z => absurd (show b ∈ ([] : List Addr) from z) (by simp), hok, .of_eq hg⟩
  obtain ⟨S', hS⟩ := hm
  have hsp : spM K Γ 1 mf [.ref a] H (fun v _ => v = .bl true) fun _ _ _ => False := by
    refine ⟨rfl, [], [], [.fl (ns.map D.int)], ⟨rfl, fun n m a z => by simp at z, fun n o a z => by simp at z⟩, .cons (.fl hfr ?_) .nil, ?_⟩
    · clear hS hi hl ha hfr
      induction ns with
      | nil => exact .nil
      | cons n ns ih => exact .cons (.int n) ih
    · rw [hS]
      intro φ' H' v e' s' r
      cases r
      rfl
  refine codeAny_mono ((F _ hKb (nsK hns) (let ⟨m, h⟩ := hsy; ⟨m, nsK h⟩)).go callerA [] s H ⟨[.ref a], []⟩ [.ref a] [.ref a] _ _ rfl hr e0 (hbind s (.ref a)) (.cons rfl .nil) hsp) fun res s' z => ?_
  match res, z with
  | .error ev, z => exact (show False from z).elim
  | .ok (.ret u), ⟨v, H', os, bare, un, hok', r', q⟩ =>
    have q' : v = .bl true := q
    subst q'
    obtain rfl : u = Value.bool true := r'
    refine ⟨rfl, OldK.of_keep fun b o e => ?_, os, bare⟩
    cases z : H b with
    | none => exact un.keep b o e z (fun y => absurd (show b ∈ ([] : List Addr) from y) (by simp)) (by simp)
    | some u =>
      obtain ⟨ys, rfl⟩ := hF b u z
      have e1 : s.heap.get? b = some _ := (hok b _ z).1
      have e2 : s'.heap.get? b = some _ := (hok' b _ (un.frzs b _ _ z)).1
      rw [e2, ← e1]
      exact e
theorem walk_G {l : PySem.W.OpenLaw} {n k : Nat} {q : Program} {loose : List Str} {XP : (Str → Option Value) → Heap → Prop} {YP : World → Heap → Prop} {d : DefRec} {K : Params → PySem.W.Frag} {x : Str} {mf : List D → M D}
    (hi : importsNone q = true) (hn : l.most = some n) (hn2 : n ≤ sizeLine) (hdf : d.params.defaults = []) (hr : Room k callerA) (hY : ∀ (w : World) (h : Heap), YP w h → (K w.params).In h)
    (F : ∀ (w : World) (mg : Str → Option Value) (fa : Addr) (h : Heap), (K w.params).In h → h.Ns mainGlobals mg → mg d.name = some (.ref fa) →
      ∃ (Γ : Nat → Addr) (fd : FuncData), (∀ (s : Shared) (u : Value), BindsTo s fd ⟨[u], []⟩ [(x, u)]) ∧ ∀ base : Heap, (K w.params).In base → base.Ns mainGlobals mg → SysIn base → FnG l.prog w (K w.params) mg base CX0 k fa fd [x] (spM (K w.params) Γ 1 mf))
    (hm : ∀ ns : List Int, ns.length ≤ n → ∃ S', mf [.fl (ns.map D.int)] [] = .ok (.bl true) S') :
    PySem.W.WalkO q loose XP YP l.row.toRowW d [] (fun f vs => PySem.call f vs) := by
  refine Att.attach_call hn hdf fun w s0 s mg mb fa o pm cd doc a vs ns G Y ho hd hcd hmg hobj hints hlen hg => ?_
  obtain ⟨Γ, fd, hb, hF⟩ := F w mg fa _ (hY w _ Y) G.T.g hmg
  exact law_G (hY w _ Y) G.T.g G.T.b G.T.builtins G.T.nolimit (let ⟨m, h, _⟩ := (G.T.seer hi).mods; ⟨m, h⟩) hg hobj hints (Nat.le_trans hlen hn2) hr hF hb (hm ns hlen)
end

open PySem PySem.Spec PyProof.Rows L2

/-! ### what data read as -/
def toPys (f : D → Option PyData) : List D → Option (List PyData)
  | [] => some []
  | x :: xs => match f x, toPys f xs with
    | some p, some ps => some (p :: ps)
    | _, _ => none
def keyPy : Key → PyData
  | .inl i => .int i
  | .inr x => .str x
def toPyK (f : D → Option PyData) : List (Key × D) → Option (List (PyData × PyData))
  | [] => some []
  | (k, x) :: xs => match f x, toPyK f xs with
    | some p, some ps => some ((keyPy k, p) :: ps)
    | _, _ => none
def toPy (S : Sto) : Nat → D → Option PyData
  | _, .non => some .none
  | _, .bl b => some (.bool b)
  | _, .int i => some (.int i)
  | _, .str x => some (.str x)
  | 0, .tup _ => none
  | n + 1, .tup xs => (toPys (toPy S n) xs).map .tuple
  | 0, .fl _ => none
  | n + 1, .fl xs => (toPys (toPy S n) xs).map .list
  | 0, .ref _ => none
  | n + 1, .ref k => match S[k]? with
    | some (.lst xs) => (toPys (toPy S n) xs).map .list
    | some (.dK kvs) => (toPyK (toPy S n) kvs).map .dict
    | _ => none
section
variable {K : PySem.W.Frag} {Γ : Nat → Addr} {φ : List Addr} {S : Sto} {H : Hp}
theorem toPys_cons {f : D → Option PyData} {x : D} {xs : List D} {ps : List PyData} (h : toPys f (x :: xs) = some ps) : ∃ p r, ps = p :: r ∧ f x = some p ∧ toPys f xs = some r := by
  unfold toPys at h
  split at h
  · rename_i p r h1 h2
    exact ⟨p, r, (Option.some.inj h).symm, h1, h2⟩
  · cases h
theorem dps_of {f : D → Option PyData} (h : ∀ d v p, f d = some p → p.canLay0 = true → RelD K H φ d v → Dp K H v p) : ∀ {ds : List D} {vs : List V} {ps : List PyData}, toPys f ds = some ps → PyData.canLayAll0 ps = true → RelDs K H φ ds vs → DpAll K H vs ps
  | [], _, _, e, _, r => by
    cases r
    unfold toPys at e
    cases e
    exact .nil
  | d :: ds, _, _, e, c, r => by
    cases r with
    | cons r1 r2 =>
      obtain ⟨p, q, rfl, h1, h2⟩ := toPys_cons e
      have c' : (p.canLay0 && PyData.canLayAll0 q) = true := by simpa [PyData.canLayAll0] using c
      rw [Bool.and_eq_true] at c'
      exact .cons (h _ _ _ h1 c'.1 r1) (dps_of h h2 c'.2 r2)
theorem dp_of (s : Sim K Γ φ S H) : ∀ (n : Nat) (d : D) (v : V) (p : PyData), toPy S n d = some p → p.canLay0 = true → RelD K H φ d v → Dp K H v p
  | n, .non, _, _, e, _, r => by cases r; cases n <;> (unfold toPy at e; cases e; exact .non)
  | n, .bl b, _, _, e, _, r => by cases r; cases n <;> (unfold toPy at e; cases e; exact .bl b)
  | n, .int i, _, _, e, _, r => by cases r; cases n <;> (unfold toPy at e; cases e; exact .int i)
  | n, .str x, _, _, e, _, r => by cases r; cases n <;> (unfold toPy at e; cases e; exact .str x)
  | 0, .tup _, _, _, e, _, _ => by unfold toPy at e; cases e
  | 0, .fl _, _, _, e, _, _ => by unfold toPy at e; cases e
  | 0, .ref _, _, _, e, _, _ => by unfold toPy at e; cases e
  | n + 1, .tup xs, _, _, e, c, r => by
    unfold toPy at e
    obtain ⟨ps, h1, rfl⟩ := Option.map_eq_some_iff.mp e
    cases r with
    | tup hT hr => exact .tup hT (dps_of (fun d v p h1 h2 h3 => dp_of s n d v p h1 h2 h3) h1 (by simpa [PyData.canLay0] using c) hr)
  | n + 1, .fl xs, _, _, e, c, r => by
    unfold toPy at e
    obtain ⟨ps, h1, rfl⟩ := Option.map_eq_some_iff.mp e
    cases r with
    | fl hT hr => exact .lst hT.sq (dps_of (fun d v p h1 h2 h3 => dp_of s n d v p h1 h2 h3) h1 (by simpa [PyData.canLay0] using c) hr)
  | n + 1, .ref k, _, _, e, c, r => by
    unfold toPy at e
    cases r with
    | ref hq =>
      cases hS : S[k]? with
      | none => simp only [hS] at e; cases e
      | some o =>
        cases o with
        | lst xs =>
          simp only [hS] at e
          obtain ⟨ps, h1, rfl⟩ := Option.map_eq_some_iff.mp e
          obtain ⟨vs, h2, h3⟩ := s.obj k _ _ hS hq
          exact .lst (SqL.of h2) (dps_of (fun d v p h1 h2 h3 => dp_of s n d v p h1 h2 h3) h1 (by simpa [PyData.canLay0] using c) h3)
        | dK kvs =>
          simp only [hS] at e
          obtain ⟨ps, h1, rfl⟩ := Option.map_eq_some_iff.mp e
          simp [PyData.canLay0] at c
        | dT kvs => simp only [hS] at e; cases e
        | ins _ _ => simp only [hS] at e; cases e
        | exo _ _ => simp only [hS] at e; cases e
        | exd _ => simp only [hS] at e; cases e
end

/-! ### == and != , in -/
def deep : Nat := 70
def eqP (S : Sto) (a b : D) : Option Bool := match toPy S deep a, toPy S deep b with
  | some p, some q => if SeqAt.shaped p = true ∧ SeqAt.shaped q = true then some (PyData.eqv p q) else none
  | _, _ => none
def twoStr : D → D → Option (Str × Str)
  | .str x, .str y => some (x, y)
  | _, _ => none
/-- dicts of plain values, alike -/
def flatEq : D → D → Bool
  | .non, .non => true
  | .bl a, .bl b => a == b
  | .int i, .int j => i == j
  | .str x, .str y => x == y
  | _, _ => false
def valD {κ : Type} [DecidableEq κ] (kvs : List (κ × D)) (k : κ) : Option D := (kvs.find? fun kv => decide (kv.1 = k)).map (·.2)
def sameK (ks ls : List (Key × D)) : Bool := ks.length == ls.length && ks.all fun p => match valD ls p.1 with
  | some d => flatEq p.2 d
  | none => false
def dictSame (S : Sto) : D → D → Bool
  | .ref n, .ref m => match S[n]?, S[m]? with
    | some (.dK ks), some (.dK ls) => sameK ks ls
    | _, _ => false
  | _, _ => false
/-- beside nothing -/
def empB (S : Sto) : D → D → Option Bool
  | .tup xs, .tup [] => some xs.isEmpty
  | .ref n, .ref m => match S[n]?, S[m]? with
    | some (.lst xs), some (.lst []) => some xs.isEmpty
    | _, _ => none
  | _, _ => none
def eqB (S : Sto) (a b : D) : Option Bool := match twoStr a b with
  | some (x, y) => some (x == y)
  | none => match eqP S a b with
    | some c => some c
    | none => if dictSame S a b = true then some true else empB S a b
section
variable {K : PySem.W.Frag} {H : Hp} {φ : List Addr}
theorem flat_rel {d e : D} {v w : V} (h : flatEq d e = true) (r1 : RelD K H φ d v) (r2 : RelD K H φ e w) : w = v ∧ flatB v = true := by
  cases d <;> cases e <;> first | cases (show false = true from h) | skip
  · cases r1; cases r2; exact ⟨rfl, rfl⟩
  · cases r1; cases r2; have := eq_of_beq h; subst this; exact ⟨rfl, rfl⟩
  · cases r1; cases r2; have := eq_of_beq h; subst this; exact ⟨rfl, rfl⟩
  · cases r1; cases r2; have := eq_of_beq h; subst this; exact ⟨rfl, rfl⟩
theorem valD_rel {κ : Type} [DecidableEq κ] {ks : List (κ × D)} {vs : List (κ × V)} (r : RelKv K H φ ks vs) (k : κ) : (∀ d, valD ks k = some d → ∃ v, valV vs k = some v ∧ RelD K H φ d v) ∧ (valD ks k = none → valV vs k = none) := by
  unfold RelKv at r
  induction r with
  | nil => exact ⟨fun d h => (by cases h), fun _ => rfl⟩
  | @cons p q ps qs h t ih =>
    by_cases e : p.1 = k
    · have e' : q.1 = k := h.1 ▸ e
      rw [valV_pos e']
      have : valD (p :: ps) k = some p.2 := by simp [valD, List.find?_cons, e]
      rw [this]
      exact ⟨fun d hd => (by cases hd; exact ⟨_, rfl, h.2⟩), fun z => (by cases z)⟩
    · have e' : ¬ q.1 = k := h.1 ▸ e
      rw [valV_neg e']
      have : valD (p :: ps) k = valD ps k := by simp [valD, List.find?_cons, e]
      rw [this]
      exact ih
theorem same_rel {ks ls : List (Key × D)} {vs ws : List (Key × V)} (h : sameK ks ls = true) (r1 : RelKv K H φ ks vs) (r2 : RelKv K H φ ls ws) : vs.length = ws.length ∧ ∀ p ∈ vs, valV ws p.1 = some p.2 ∧ flatB p.2 = true := by
  unfold sameK at h
  rw [Bool.and_eq_true] at h
  refine ⟨by rw [← Paired.length r1, ← Paired.length r2]; exact eq_of_beq h.1, ?_⟩
  have h2 := h.2
  clear h
  unfold RelKv at r1
  induction r1 with
  | nil => exact fun p hp => absurd hp (List.not_mem_nil)
  | @cons p q ps qs a t ih =>
    rw [List.all_cons, Bool.and_eq_true] at h2
    intro z hz
    rcases List.mem_cons.mp hz with rfl | hz
    · have b := h2.1
      split at b
      · rename_i d hd
        obtain ⟨v, h3, h4⟩ := (valD_rel r2 p.1).1 d hd
        obtain ⟨h5, h6⟩ := flat_rel b a.2 h4
        rw [a.1] at h3
        exact ⟨by rw [h3, h5], h6⟩
      · cases b
    · exact ih h2.2 z hz
theorem dictSame_rel {Γ : Nat → Addr} {S : Sto} {a b : D} {v w : V} (sm : Sim K Γ φ S H) (h : dictSame S a b = true) (r1 : RelD K H φ a v) (r2 : RelD K H φ b w) : ∃ x y vs ws, v = .ref x ∧ w = .ref y ∧ H x = some (.dK vs) ∧ H y = some (.dK ws) ∧ vs.length = ws.length ∧ ∀ p ∈ vs, valV ws p.1 = some p.2 ∧ flatB p.2 = true := by
  cases a <;> cases b <;> first | cases (show false = true from h) | skip
  rename_i n m
  cases r1 with
  | ref q1 =>
    cases r2 with
    | ref q2 =>
      unfold dictSame at h
      cases hn : S[n]? with
      | none => simp only [hn] at h; cases h
      | some o =>
        cases o with
        | dK ks =>
          cases hm : S[m]? with
          | none => simp only [hn, hm] at h; cases h
          | some o =>
            cases o with
            | dK ls =>
              simp only [hn, hm] at h
              obtain ⟨vs, h1, h2⟩ := sm.obj n _ _ hn q1
              obtain ⟨ws, h3, h4⟩ := sm.obj m _ _ hm q2
              obtain ⟨h5, h6⟩ := same_rel h h2 h4
              exact ⟨_, _, vs, ws, rfl, rfl, h1, h3, h5, h6⟩
            | _ => simp only [hn, hm] at h; cases h
        | _ => simp only [hn] at h; cases h
end
section
variable {P : Program} {w : World} {K : PySem.W.Frag} {mg : Str → Option Value} {Γ : Nat → Addr} {X : Cx}
theorem empB_rel {pins : List (Addr × Obj)} {s : Shared} {σ : Sl} {H : Hp} {φ : List Addr} {S : Sto} {a b : D} {x y : V} {v u : Value} {c : Bool} (I : Inv X pins σ H s) (sm : Sim X.K Γ φ S H) (h : empB S a b = some c) (r1 : RelD X.K H φ a x) (r2 : RelD X.K H φ b y) (rx : RelV x v) (ry : RelV y u)
    (hu : X.A.units < cLine) : SeqAt.RcAt X.A s v u c ∧ SeqAt.RcNeAt X.A s v u (!c) := by
  cases a <;> cases b <;> first | (cases (show none = some c from h); done) | skip
  · rename_i xs ys
    cases ys with
    | cons _ _ => cases h
    | nil =>
      cases r1 with
      | tup t1 q1 =>
        cases r2 with
        | tup t2 q2 =>
          cases q2
          cases rx
          cases ry
          obtain ⟨i1, v1, ⟨o1, h1, k1, n1, e1⟩, _⟩ := I.tuple t1
          obtain ⟨i2, v2, ⟨o2, h2, k2, n2, e2⟩, _⟩ := I.tuple t2
          cases v2
          have hc : c = xs.isEmpty := (Option.some.inj h).symm
          have hz : i1.length = xs.length := by rw [← v1.length, q1.length]
          have hm : min i1.toArray.size ([] : List Value).toArray.size = 0 := by simp
          have L1 : s.heap.IsTuple _ i1.toArray := ⟨_, h1, k1, _, e1⟩
          have L2 : s.heap.IsTuple _ ([] : List Value).toArray := ⟨_, h2, k2, _, e2⟩
          have r : c = ((List.range (min i1.toArray.size ([] : List Value).toArray.size)).all (fun _ => true) && i1.toArray.size == ([] : List Value).toArray.size) := by
            rw [hm, hc]
            cases xs with
            | nil => cases i1 <;> simp_all
            | cons _ _ => cases i1 <;> simp_all
          constructor
          · rw [r]
            exact SeqAt.RcAt.tuples (e := fun _ => true) L1 L2 hu fun j _ h2 => absurd h2 (by simp)
          · rw [r]
            exact SeqAt.RcNeAt.tuples (e := fun _ => true) L1 L2 hu fun j _ h2 => absurd h2 (by simp)
  · rename_i n m
    cases r1 with
    | ref q1 =>
      cases r2 with
      | ref q2 =>
        unfold empB at h
        cases hn : S[n]? with
        | none => simp only [hn] at h; cases h
        | some o =>
          cases o with
          | lst xs =>
            cases hm : S[m]? with
            | none => simp only [hn, hm] at h; cases h
            | some o =>
              cases o with
              | lst ys =>
                cases ys with
                | cons _ _ => simp only [hn, hm] at h; cases h
                | nil =>
                  simp only [hn, hm] at h
                  have hc : c = xs.isEmpty := (Option.some.inj h).symm
                  obtain ⟨vs, w1, p1⟩ := sm.obj n _ _ hn q1
                  obtain ⟨ws, w2, p2⟩ := sm.obj m _ _ hm q2
                  cases p2
                  cases rx
                  cases ry
                  obtain ⟨i1, v1, ⟨o1, n1, h1, k1, _, e1⟩, _⟩ := I.list (SqL.of w1)
                  obtain ⟨i2, v2, ⟨o2, n2, h2, k2, _, e2⟩, _⟩ := I.list (SqL.of w2)
                  cases v2
                  have hz : i1.length = xs.length := by rw [← v1.length, p1.length]
                  have L1 : s.heap.IsList _ i1.toArray := ⟨_, h1, k1, _, e1⟩
                  have L2 : s.heap.IsList _ ([] : List Value).toArray := ⟨_, h2, k2, _, e2⟩
                  cases xs with
                  | nil =>
                    obtain rfl : i1 = [] := List.eq_nil_of_length_eq_zero hz
                    obtain rfl : c = true := hc
                    exact ⟨SeqAt.RcAt.lists (e := fun _ => true) L1 L2 rfl hu fun j _ h2 => absurd h2 (by simp), SeqAt.RcNeAt.lists (e := fun _ => true) L1 L2 rfl hu fun j _ h2 => absurd h2 (by simp)⟩
                  | cons x xs =>
                    obtain rfl : c = false := hc
                    have hs : (i1.toArray.size != ([] : List Value).toArray.size) = true := by simp [hz]
                    exact ⟨SeqAt.RcAt.lists_lengths L1 L2 hs hu, SeqAt.RcNeAt.lists_lengths L1 L2 hs hu⟩
              | _ => simp only [hn, hm] at h; cases h
          | _ => simp only [hn] at h; cases h
end
def ofB (f : Sto → Option Bool) : M D := fun S => match f S with
  | some b => .ok (.bl b) S
  | none => .no
def eqD (a b : D) : M D := ofB fun S => eqB S a b
def neD (a b : D) : M D := ofB fun S => (eqB S a b).map (!·)
/-- x in c -/
def itemsPy (S : Sto) (c : D) : Option (List PyData) := match toPy S deep c with
  | some (.list ps) => some ps
  | some (.tuple ps) => some ps
  | _ => none
def inB (S : Sto) (x c : D) : Option Bool := match toPy S deep x, toPy S deep c with
  | some p, some (.list qs) => if SeqAt.shaped p = true ∧ SeqAt.shaped (.list qs) = true then some (qs.any fun y => PyData.eqv y p) else none
  | some p, some (.tuple qs) => if SeqAt.shaped p = true ∧ SeqAt.shaped (.tuple qs) = true then some (qs.any fun y => PyData.eqv y p) else none
  | _, _ => none
/-- one sign in a text -/
def inS (x c : D) : Option Bool := match x, c with
  | .str x, .str z => some (!(Builtin.Str.occurrences z x 0 z.length 1).isEmpty)
  | _, _ => none
def inD (x c : D) : M D := ofB fun S => match c with
  | .str _ => inS x c
  | .ref n => match S[n]? with
    | some (.dK kvs) => match x with
      | .int i => some (kvs.any fun p => decide (p.1 = Sum.inl i))
      | .str z => some (kvs.any fun p => decide (p.1 = Sum.inr z))
      | _ => none
    | _ => inB S x c
  | _ => inB S x c
def ninD (x c : D) : M D := fun S => match inD x c S with
  | .ok (.bl b) S' => .ok (.bl (!b)) S'
  | _ => .no
section
variable {X : Cx} {Γ : Nat → Addr} {E : XK}
theorem ofB_post {K : PySem.W.Frag} {φ : List Addr} {S : Sto} {H : Hp} {f : Sto → Option Bool} {Q : VK} (s : Sim K Γ φ S H) (p : Post K Γ E (rD K) φ H (ofB f S) Q) : ∃ b, f S = some b ∧ Q (.bl b) H := by
  unfold ofB at p
  cases h : f S with
  | none => simp only [h] at p; exact p.elim
  | some b => simp only [h] at p; exact ⟨b, rfl, p.here s (.bl b)⟩
theorem eqB_str {S : Sto} {x y : Str} : eqB S (.str x) (.str y) = some (x == y) := rfl
theorem eqB_cases {S : Sto} {a b : D} {c : Bool} (h : eqB S a b = some c) : (∃ x y, a = .str x ∧ b = .str y ∧ c = (x == y)) ∨ eqP S a b = some c ∨ (dictSame S a b = true ∧ c = true) ∨ empB S a b = some c := by
  unfold eqB at h
  split at h
  · rename_i x y e
    refine .inl ⟨x, y, ?_, ?_, (Option.some.inj h).symm⟩ <;> (cases a <;> cases b <;> cases e <;> rfl)
  · split at h
    · rename_i d hd
      cases h
      exact .inr (.inl hd)
    · by_cases hz : dictSame S a b = true
      · rw [if_pos hz] at h
        exact .inr (.inr (.inl ⟨hz, (Option.some.inj h).symm⟩))
      · rw [if_neg hz] at h; exact .inr (.inr (.inr h))
theorem eqB_of {S : Sto} {a b : D} {c : Bool} (h : eqP S a b = some c) : ∃ p q, toPy S deep a = some p ∧ toPy S deep b = some q ∧ SeqAt.shaped p = true ∧ SeqAt.shaped q = true ∧ c = PyData.eqv p q := by
  unfold eqP at h
  split at h
  · rename_i p q h1 h2
    by_cases hs : SeqAt.shaped p = true ∧ SeqAt.shaped q = true
    · rw [if_pos hs] at h
      exact ⟨p, q, h1, h2, hs.1, hs.2, (Option.some.inj h).symm⟩
    · rw [if_neg hs] at h; cases h
  · cases h
theorem od_eq (hu : X.A.units + 64 < cLine) : OpD X Γ E (compareOp .Eq) eqD := by
  intro pins s σ H x y v u Q I rx ry ⟨φ, S, dx, dy, sm, r1, r2, p⟩
  obtain ⟨b, h, q⟩ := ofB_post sm p
  rcases eqB_cases h with ⟨a, b', rfl, rfl, rfl⟩ | h | ⟨hz, rfl⟩ | hz
  rotate_left 3
  · exact (empB_rel I sm hz r1 r2 rx ry (by omega)).1 X.prog X.w X.xe _ ⟨.bl _, H, I, rfl, q⟩
  rotate_left 2
  · obtain ⟨x1, x2, vs, ws, rfl, rfl, h1, h2, h3, h4⟩ := dictSame_rel sm hz r1 r2
    exact op_eq_dictA (by omega) pins s σ H _ _ v u Q I rx ry ⟨_, _, vs, ws, rfl, rfl, h1, h2, h3, h4, q⟩
  · cases r1; cases r2
    obtain ⟨t, rfl⟩ := rx
    obtain ⟨t', rfl⟩ := ry
    exact eq_str (fin_bl I q rfl)
  obtain ⟨p1, p2, h1, h2, s1, s2, rfl⟩ := eqB_of h
  exact op_eqD hu pins s σ H x y v u Q I rx ry ⟨p1, p2, dp_of sm _ _ _ _ h1 (SeqAt.canLay_of_shaped s1) r1, dp_of sm _ _ _ _ h2 (SeqAt.canLay_of_shaped s2) r2, s1, s2, q⟩
theorem od_ne (hu : X.A.units + 64 < cLine) : OpD X Γ E (compareOp .NotEq) neD := by
  intro pins s σ H x y v u Q I rx ry ⟨φ, S, dx, dy, sm, r1, r2, p⟩
  obtain ⟨b, h, q⟩ := ofB_post sm p
  obtain ⟨c, h', rfl⟩ := Option.map_eq_some_iff.mp h
  rcases eqB_cases h' with ⟨a, b', rfl, rfl, rfl⟩ | h' | ⟨hz, rfl⟩ | hz
  rotate_left 3
  · exact (empB_rel I sm hz r1 r2 rx ry (by omega)).2 X.prog X.w X.xe _ ⟨.bl _, H, I, rfl, q⟩
  rotate_left 2
  · obtain ⟨x1, x2, vs, ws, rfl, rfl, h1, h2, h3, h4⟩ := dictSame_rel sm hz r1 r2
    exact op_ne_dictA (by omega) pins s σ H _ _ v u Q I rx ry ⟨_, _, vs, ws, rfl, rfl, h1, h2, h3, h4, q⟩
  · cases r1; cases r2
    obtain ⟨t, rfl⟩ := rx
    obtain ⟨t', rfl⟩ := ry
    exact ne_str (fin_bl I q rfl)
  obtain ⟨p1, p2, h1, h2, s1, s2, rfl⟩ := eqB_of h'
  exact op_neD hu pins s σ H x y v u Q I rx ry ⟨p1, p2, dp_of sm _ _ _ _ h1 (SeqAt.canLay_of_shaped s1) r1, dp_of sm _ _ _ _ h2 (SeqAt.canLay_of_shaped s2) r2, s1, s2, q⟩
theorem inB_of {S : Sto} {x c : D} {b : Bool} (h : inB S x c = some b) : ∃ p qs, toPy S deep x = some p ∧ (toPy S deep c = some (.list qs) ∨ toPy S deep c = some (.tuple qs)) ∧ SeqAt.shaped p = true ∧ PyData.canLayAll0 qs = true ∧ b = qs.any fun y => PyData.eqv y p := by
  unfold inB at h
  split at h
  · rename_i p qs h1 h2
    by_cases hs : SeqAt.shaped p = true ∧ SeqAt.shaped (.list qs) = true
    · rw [if_pos hs] at h
      exact ⟨p, qs, h1, .inl h2, hs.1, by simpa [PyData.canLay0] using SeqAt.canLay_of_shaped hs.2, (Option.some.inj h).symm⟩
    · rw [if_neg hs] at h; cases h
  · rename_i p qs h1 h2
    by_cases hs : SeqAt.shaped p = true ∧ SeqAt.shaped (.tuple qs) = true
    · rw [if_pos hs] at h
      exact ⟨p, qs, h1, .inr h2, hs.1, by simpa [PyData.canLay0] using SeqAt.canLay_of_shaped hs.2, (Option.some.inj h).symm⟩
    · rw [if_neg hs] at h; cases h
  · cases h
theorem in_seqD (hu : X.A.units + 65 < cLine) {pins : List (Addr × Obj)} {s : Shared} {σ : Sl} {H : Hp} {x y : V} {v u : Value} {Q : VK} {φ : List Addr} {S : Sto} {dx dy : D} {b : Bool} (I : Inv X pins σ H s) (rx : RelV x v) (ry : RelV y u) (sm : Sim X.K Γ φ S H) (r1 : RelD X.K H φ dx x) (r2 : RelD X.K H φ dy y)
    (h : inB S dx dy = some b) : (Q (.bl b) H → wpAny (model X.prog X.w) X.A (compareOp .In v u) (EP X pins σ Q) X.xe s) ∧ (Q (.bl (!b)) H → wpAny (model X.prog X.w) X.A (compareOp .NotIn v u) (EP X pins σ Q) X.xe s) := by
  obtain ⟨p, qs, h1, h2, s1, c2, rfl⟩ := inB_of h
  obtain ⟨bs, e1⟩ := Dp.reads I _ _ _ (dp_of sm _ _ _ _ h1 (SeqAt.canLay_of_shaped s1) r1) rx
  rcases h2 with h2 | h2
  · obtain ⟨as, e2⟩ := Dp.reads I _ _ _ (dp_of sm _ _ _ _ h2 (by simpa [PyData.canLay0] using c2) r2) ry
    exact ⟨fun q => SeqAt.in_list_reads e2 e1 c2 (SeqAt.canLay_of_shaped s1) (room_in_shaped s1 hu) ⟨.bl _, H, I, rfl, q⟩, fun q => SeqAt.notIn_list_reads e2 e1 c2 (SeqAt.canLay_of_shaped s1) (room_in_shaped s1 hu) ⟨.bl _, H, I, rfl, q⟩⟩
  · obtain ⟨as, e2⟩ := Dp.reads I _ _ _ (dp_of sm _ _ _ _ h2 (by simpa [PyData.canLay0] using c2) r2) ry
    exact ⟨fun q => SeqAt.in_tuple_reads e2 e1 c2 (SeqAt.canLay_of_shaped s1) (room_in_shaped s1 hu) ⟨.bl _, H, I, rfl, q⟩, fun q => SeqAt.notIn_tuple_reads e2 e1 c2 (SeqAt.canLay_of_shaped s1) (room_in_shaped s1 hu) ⟨.bl _, H, I, rfl, q⟩⟩
end

open PySem PySem.Spec PyProof.Rows L2

/-! ### operators -/
def addD (x y : D) : M D := match x, y with
  | .int i, .int j => pure (.int (i + j))
  | .str a, .str b => if a.length + b.length ≤ sizeLine then pure (.str (a ++ b)) else stuck
  | .tup a, .tup b => if a.length + b.length ≤ sizeLine then pure (.tup (a ++ b)) else stuck
  | .ref n, .ref m => fun S => match S[n]?, S[m]? with
    | some (.lst a), some (.lst b) => if a.length + b.length ≤ sizeLine then newO (.lst (a ++ b)) S else .no
    | _, _ => .no
  | _, _ => stuck
def subD (x y : D) : M D := match x, y with
  | .int i, .int j => pure (.int (i - j))
  | _, _ => stuck
def small64 (i : Int) : Bool := decide (-(2 ^ 64) < i) && decide (i < 2 ^ 64)
def mulD (x y : D) : M D := match x, y with
  | .int i, .int j => if small64 i || small64 j then pure (.int (i * j)) else stuck
  | .str a, .int k => if a.length ≤ 1000 ∧ -1000 ≤ k ∧ k ≤ 1000 then pure (.str (Txt.mul a k)) else stuck
  | .ref n, .int k => fun S => match S[n]? with
    | some (.lst a) => if -(2 ^ 63) ≤ k ∧ k < 2 ^ 63 ∧ a.length * k.toNat ≤ sizeLine then newO (.lst (List.replicate k.toNat a).flatten) S else .no
    | _ => .no
  | .tup a, .int k => if a ≠ [] ∧ 2 ≤ k ∧ (a.length : Int) * k ≤ 1000000 then pure (.tup (List.replicate k.toNat a).flatten) else stuck
  | _, _ => stuck
def modD (x y : D) : M D := match x, y with
  | .int i, .int j => if 0 < j then pure (.int (i % j)) else stuck
  | _, _ => stuck
def fdivD (x y : D) : M D := match x, y with
  | .int i, .int j => if 0 < j ∧ j < 1073741824 then pure (.int (i / j)) else stuck
  | _, _ => stuck
def powD (x y : D) : M D := match x, y with
  | .int i, .int j => if 0 ≤ j ∧ j ≤ 1000000 ∧ i.natAbs < 2 ^ 64 then pure (.int (i ^ j.toNat)) else stuck
  | _, _ => stuck
def negD (x : D) : M D := match x with
  | .int i => pure (.int (-i))
  | _ => stuck
def ltS (i j : Str) : Bool := decide (i.cps.toList < j.cps.toList)
def ltD (x y : D) : M D := match x, y with
  | .int i, .int j => pure (.bl (decide (i < j)))
  | .str i, .str j => pure (.bl (ltS i j))
  | _, _ => stuck
def leD (x y : D) : M D := match x, y with
  | .int i, .int j => pure (.bl (decide (i ≤ j)))
  | _, _ => stuck
def gtD (x y : D) : M D := match x, y with
  | .int i, .int j => pure (.bl (decide (j < i)))
  | _, _ => stuck
def geD (x y : D) : M D := match x, y with
  | .int i, .int j => pure (.bl (decide (j ≤ i)))
  | _, _ => stuck
def isNone : D → Bool
  | .non => true
  | _ => false
def isNoneD (x y : D) : M D := match y with
  | .non => pure (.bl (isNone x))
  | _ => stuck
def notNoneD (x y : D) : M D := match y with
  | .non => pure (.bl (!isNone x))
  | _ => stuck
/-- x is True, x is False, for truths -/
def isBlD (x y : D) : M D := match x, y with
  | .bl a, .bl b => pure (.bl (decide (a = b)))
  | _, _ => stuck
def notBlD (x y : D) : M D := match x, y with
  | .bl a, .bl b => pure (.bl (!decide (a = b)))
  | _, _ => stuck
section
variable {X : Cx} {Γ : Nat → Addr} {E : XK}
theorem od_add : OpD X Γ E (binaryOp .Add) addD := by
  intro pins s σ H x y v u Q I rx ry ⟨φ, S, dx, dy, sm, r1, r2, p⟩
  unfold addD at p
  split at p
  · cases r1; cases r2
    exact op_add pins s σ H _ _ v u Q I rx ry ⟨_, _, rfl, rfl, p.val sm (.int _)⟩
  · cases r1; cases r2
    obtain ⟨hz, p⟩ := Post.ite p
    exact op_add_str pins s σ H _ _ v u Q I rx ry ⟨_, _, rfl, rfl, hz, p.val sm (.str _)⟩
  · obtain ⟨hz, p⟩ := Post.ite p
    cases r1 with
    | tup t1 q1 =>
      cases r2 with
      | tup t2 q2 =>
        have l1 := RelDs.length q1
        have l2 := RelDs.length q2
        refine op_catA pins s σ H _ _ v u Q I rx ry ⟨_, _, _, _, rfl, rfl, t1, t2, by omega, fun e => ?_, fun e1 e2 => ?_, fun e1 e2 => ?_⟩
        · subst e
          cases q1
          exact p.val sm (.tup t2 q2)
        · subst e2
          cases q2
          rw [List.append_nil] at p
          exact p.val sm (.tup t1 q1)
        · exact Post.newT sm (RelDs.app q1 q2) p
  · rename_i n m
    cases r1 with
    | ref q1 =>
      cases r2 with
      | ref q2 =>
        cases hn : S[n]? with
        | none => simp only [hn] at p; exact p.elim
        | some o =>
          cases o with
          | lst a =>
            cases hm : S[m]? with
            | none => simp only [hn, hm] at p; exact p.elim
            | some o =>
              cases o with
              | lst b =>
                simp only [hn, hm] at p
                by_cases hz : a.length + b.length ≤ sizeLine
                · rw [if_pos hz] at p
                  obtain ⟨va, h1, z1⟩ := sm.obj n _ _ hn q1
                  obtain ⟨vb, h2, z2⟩ := sm.obj m _ _ hm q2
                  exact op_cat pins s σ H _ _ v u Q I rx ry ⟨_, _, _, _, rfl, rfl, h1, h2, by rw [← RelDs.length z1, ← RelDs.length z2]; exact hz, Post.newL sm (RelDs.app z1 z2) p⟩
                · rw [if_neg hz] at p; exact p.elim
              | dK _ => simp only [hn, hm] at p; exact p.elim
              | dT _ => simp only [hn, hm] at p; exact p.elim
              | ins _ _ => simp only [hn, hm] at p; exact p.elim
              | exo _ _ => simp only [hn, hm] at p; exact p.elim
              | exd _ => simp only [hn, hm] at p; exact p.elim
          | dK _ => simp only [hn] at p; exact p.elim
          | dT _ => simp only [hn] at p; exact p.elim
          | ins _ _ => simp only [hn] at p; exact p.elim
          | exo _ _ => simp only [hn] at p; exact p.elim
          | exd _ => simp only [hn] at p; exact p.elim
  · exact p.elim
theorem od_sub : OpD X Γ E (binaryOp .Sub) subD := by
  intro pins s σ H x y v u Q I rx ry ⟨φ, S, dx, dy, sm, r1, r2, p⟩
  unfold subD at p
  split at p
  · cases r1; cases r2
    exact op_sub pins s σ H _ _ v u Q I rx ry ⟨_, _, rfl, rfl, p.val sm (.int _)⟩
  · exact p.elim
/-- tuple * int, up to a million items -/
def rRepW (K : PySem.W.Frag) : R2 := fun x y H Q => ∃ (a : Addr) (m : Int) (vs : List V), x = .ref a ∧ y = .int m ∧ SqT K H a vs ∧ vs ≠ [] ∧ 2 ≤ m ∧ (vs.length : Int) * m ≤ 1000000 ∧ ∀ q, H q = none → Q (.ref q) (upd H q (.tup (List.replicate m.toNat vs).flatten))
theorem op_repW : OpR X (binaryOp .Mult) (rRepW X.K) := by
  rintro pins s σ H x y v u Q I rx ry ⟨a, m, vs, rfl, rfl, hT, hne, h1, h2, q⟩
  cases rx
  obtain ⟨tt, rfl⟩ := ry
  obtain ⟨ws, r, ⟨⟨cl, dd, da, sl⟩, ho, hc, n, hd⟩, hs⟩ := I.tuple hT
  obtain rfl : cl = _ := hc
  obtain rfl : da = _ := hd
  have e1 : ws.length = vs.length := r.length.symm
  have p1 : 1 ≤ vs.length := by
    cases vs with
    | nil => exact absurd rfl hne
    | cons _ _ => simp
  have z1 : ws.toArray.size = vs.length := by rw [List.size_toArray, e1]
  have em : ws.toArray.isEmpty = false := by
    cases ws with
    | nil => simp at e1; omega
    | cons _ _ => rfl
  have m1 : m ≤ 1000000 := Int.le_trans (by have := Int.mul_le_mul_of_nonneg_right (show (1 : Int) ≤ (vs.length : Int) by omega) (show (0 : Int) ≤ m by omega); omega) h2
  have big : (List.replicate m.toNat ws).flatten.length ≤ 1000000 := by
    rw [PyProof.Rows.lm_len_rep_flat, e1]
    have : ((m.toNat * vs.length : Nat) : Int) ≤ 1000000 := by
      rw [Int.natCast_mul, Int.toNat_of_nonneg (by omega), Int.mul_comm]
      exact h2
    omega
  have sl1 : 1000000 ≤ sizeLine := by decide
  have k0 : (decide (m < -(2 ^ 63)) || decide (m ≥ 2 ^ 63)) = false := by
    rw [decide_eq_false (by omega), decide_eq_false (by omega)]; rfl
  have k1 : (ws.toArray.isEmpty || m == 1) = false := by
    rw [em, Bool.false_or]; exact beq_eq_false_iff_ne.mpr (by omega)
  have k2 : (decide (m ≤ 0) || ws.toArray.isEmpty) = false := by
    rw [em, Bool.or_false]; exact decide_eq_false (by omega)
  have k3 : ((ws.toArray.size : Nat) : Int) * m ≤ 1000000 := by rw [z1]; exact h2
  have k4 : Builtin.Tuple.tupleTooMany (((ws.toArray.size : Nat) : Int) * m) = false := by
    have : ((1000000 : Nat) : Int) ≤ (sizeLine : Int) := by exact_mod_cast sl1
    unfold Builtin.Tuple.tupleTooMany
    exact decide_eq_false (by omega)
  have W := tuple_mulW a ws.toArray n dd sl m tt k0 k1 k2 (by omega) k4 (by rw [size_rep, List.size_toArray]; omega)
  refine wpAny_binaryOp_repeat_ref (U := "int") (T := "tuple") (by decide) ⟨_, ho, rfl⟩
    (fun s' => typeIs_int s' m tt) noFill_tuple_mul F.fills_int_mul F.slot_int_rmul
    repeat_tuple F.slot_int_index.lookup ?_
  refine call_meets F.slot_int_rmul (typeIs_int s m tt) F.entry_int_rmul (F.args_int_rmul_2 _ _)
    (int_rmul_tuple m tt a ws.toArray n dd sl) ⟨ho, rfl, ⟨_, ho, rfl⟩, ?_⟩
  refine call_meets F.slot_tuple_mul ⟨_, ho, rfl⟩ F.entry_tuple_mul (F.args_tuple_mul_2 _ _) W ⟨ho, ?_⟩
  rw [size_rep]
  refine ⟨.ref s.heap.objs.size, _, I.laid (o := .tup (List.replicate m.toNat vs).flatten) (t' := s.toks)
    (fun b ob z => Heap.get?_push_of_some _ z) (Nat.le_refl _) ⟨?_, _, r.rep m.toNat, IsTup.new _ _⟩, rfl, q _ (I.hok.fresh (Nat.le_refl _))⟩
  have := (r.rep m.toNat).length
  omega
theorem od_mul : OpD X Γ E (binaryOp .Mult) mulD := by
  intro pins s σ H x y v u Q I rx ry ⟨φ, S, dx, dy, sm, r1, r2, p⟩
  unfold mulD at p
  split at p
  · rename_i i j
    cases r1; cases r2
    obtain ⟨hz, p⟩ := Post.ite p
    refine op_mul pins s σ H _ _ v u Q I rx ry ⟨_, _, rfl, rfl, ?_, p.val sm (.int _)⟩
    rw [Bool.or_eq_true] at hz
    unfold small64 at hz
    simp only [Bool.and_eq_true, decide_eq_true_eq] at hz
    exact hz
  · rename_i a k
    cases r1; cases r2
    obtain ⟨hz, p⟩ := Post.ite p
    obtain ⟨t, rfl⟩ := rx
    obtain ⟨t', rfl⟩ := ry
    exact SB.mul (mulOk_of 1000 1000 hz.1 (by omega) (by omega) (by decide) (by decide)) fun t' tk => ⟨.str _, H, I.tok _, ⟨_, rfl⟩, p.val sm (.str _)⟩
  · rename_i n k
    cases r1 with
    | ref q1 =>
      cases r2
      cases hn : S[n]? with
      | none => simp only [hn] at p; exact p.elim
      | some o =>
        cases o with
        | lst a =>
          simp only [hn] at p
          by_cases hz : -(2 ^ 63) ≤ k ∧ k < 2 ^ 63 ∧ a.length * k.toNat ≤ sizeLine
          · rw [if_pos hz] at p
            obtain ⟨va, h1, z1⟩ := sm.obj n _ _ hn q1
            exact op_rep pins s σ H _ _ v u Q I rx ry ⟨_, _, _, rfl, rfl, h1, hz.1, hz.2.1, by rw [← RelDs.length z1]; exact hz.2.2, Post.newL sm (RelDs.rep z1 _) p⟩
          · rw [if_neg hz] at p; exact p.elim
        | dK _ => simp only [hn] at p; exact p.elim
        | dT _ => simp only [hn] at p; exact p.elim
        | ins _ _ => simp only [hn] at p; exact p.elim
        | exo _ _ => simp only [hn] at p; exact p.elim
        | exd _ => simp only [hn] at p; exact p.elim
  · rename_i a k
    cases r1 with
    | tup t1 q1 =>
      cases r2
      obtain ⟨hz, p⟩ := Post.ite p
      have l1 := RelDs.length q1
      exact op_repW pins s σ H _ _ v u Q I rx ry ⟨_, _, _, rfl, rfl, t1, fun e => hz.1 (List.eq_nil_of_length_eq_zero (by rw [l1, e]; rfl)), hz.2.1, by rw [← l1]; exact hz.2.2, Post.newT sm (RelDs.rep q1 _) p⟩
  · exact p.elim
theorem od_mod : OpD X Γ E (binaryOp .Mod) modD := by
  intro pins s σ H x y v u Q I rx ry ⟨φ, S, dx, dy, sm, r1, r2, p⟩
  unfold modD at p
  split at p
  · cases r1; cases r2
    obtain ⟨hz, p⟩ := Post.ite p
    exact op_mod pins s σ H _ _ v u Q I rx ry ⟨_, _, rfl, rfl, hz, p.val sm (.int _)⟩
  · exact p.elim
theorem od_fdiv : OpD X Γ E (binaryOp .FloorDiv) fdivD := by
  intro pins s σ H x y v u Q I rx ry ⟨φ, S, dx, dy, sm, r1, r2, p⟩
  unfold fdivD at p
  split at p
  · cases r1; cases r2
    obtain ⟨hz, p⟩ := Post.ite p
    exact op_fdiv pins s σ H _ _ v u Q I rx ry ⟨_, _, rfl, rfl, hz, p.val sm (.int _)⟩
  · exact p.elim
theorem od_pow : OpD X Γ E (binaryOp .Pow) powD := by
  intro pins s σ H x y v u Q I rx ry ⟨φ, S, dx, dy, sm, r1, r2, p⟩
  unfold powD at p
  split at p
  · cases r1; cases r2
    obtain ⟨hz, p⟩ := Post.ite p
    exact op_pow pins s σ H _ _ v u Q I rx ry ⟨_, _, rfl, rfl, hz, p.val sm (.int _)⟩
  · exact p.elim
theorem ud_neg : UnD X Γ E (unaryOp .USub) negD := by
  intro pins s σ H x v Q I rx ⟨φ, S, dx, sm, r1, p⟩
  unfold negD at p
  split at p
  · cases r1
    exact un_neg pins s σ H _ v Q I rx ⟨_, rfl, p.val sm (.int _)⟩
  · exact p.elim
theorem od_lt : OpD X Γ E (compareOp .Lt) ltD := by
  intro pins s σ H x y v u Q I rx ry ⟨φ, S, dx, dy, sm, r1, r2, p⟩
  unfold ltD at p
  split at p
  · cases r1; cases r2
    exact op_lt pins s σ H _ _ v u Q I rx ry ⟨_, _, rfl, rfl, p.val sm (.bl _)⟩
  · cases r1; cases r2
    exact op_lt_str pins s σ H _ _ v u Q I rx ry ⟨_, _, rfl, rfl, p.val sm (.bl _)⟩
  · exact p.elim
theorem od_le : OpD X Γ E (compareOp .LtE) leD := by
  intro pins s σ H x y v u Q I rx ry ⟨φ, S, dx, dy, sm, r1, r2, p⟩
  unfold leD at p
  split at p
  · cases r1; cases r2
    exact op_le pins s σ H _ _ v u Q I rx ry ⟨_, _, rfl, rfl, p.val sm (.bl _)⟩
  · exact p.elim
theorem od_gt : OpD X Γ E (compareOp .Gt) gtD := by
  intro pins s σ H x y v u Q I rx ry ⟨φ, S, dx, dy, sm, r1, r2, p⟩
  unfold gtD at p
  split at p
  · cases r1; cases r2
    exact op_gt pins s σ H _ _ v u Q I rx ry ⟨_, _, rfl, rfl, p.val sm (.bl _)⟩
  · exact p.elim
theorem od_ge : OpD X Γ E (compareOp .GtE) geD := by
  intro pins s σ H x y v u Q I rx ry ⟨φ, S, dx, dy, sm, r1, r2, p⟩
  unfold geD at p
  split at p
  · cases r1; cases r2
    exact op_ge pins s σ H _ _ v u Q I rx ry ⟨_, _, rfl, rfl, p.val sm (.bl _)⟩
  · exact p.elim
theorem isNone_rel {K : PySem.W.Frag} {H : Hp} {φ : List Addr} {d : D} {v : V} (r : RelD K H φ d v) : decide (v = .non) = isNone d := by
  cases r <;> simp [isNone]
theorem od_isN : OpD X Γ E (compareOp .Is) isNoneD := by
  intro pins s σ H x y v u Q I rx ry ⟨φ, S, dx, dy, sm, r1, r2, p⟩
  unfold isNoneD at p
  split at p
  · cases r2
    exact op_isN pins s σ H _ _ v u Q I rx ry ⟨rfl, by rw [isNone_rel r1]; exact p.val sm (.bl _)⟩
  · exact p.elim
theorem od_notN : OpD X Γ E (compareOp .IsNot) notNoneD := by
  intro pins s σ H x y v u Q I rx ry ⟨φ, S, dx, dy, sm, r1, r2, p⟩
  unfold notNoneD at p
  split at p
  · cases r2
    exact op_notN pins s σ H _ _ v u Q I rx ry ⟨rfl, by rw [isNone_rel r1]; exact p.val sm (.bl _)⟩
  · exact p.elim
theorem od_isB : OpD X Γ E (compareOp .Is) isBlD := by
  intro pins s σ H x y v u Q I rx ry ⟨φ, S, dx, dy, sm, r1, r2, p⟩
  unfold isBlD at p
  split at p
  · cases r1; cases r2
    exact op_is_bl pins s σ H _ _ v u Q I rx ry ⟨_, _, rfl, rfl, p.val sm (.bl _)⟩
  · exact p.elim
theorem od_notB : OpD X Γ E (compareOp .IsNot) notBlD := by
  intro pins s σ H x y v u Q I rx ry ⟨φ, S, dx, dy, sm, r1, r2, p⟩
  unfold notBlD at p
  split at p
  · cases r1; cases r2
    exact op_isnot_bl pins s σ H _ _ v u Q I rx ry ⟨_, _, rfl, rfl, p.val sm (.bl _)⟩
  · exact p.elim
end

/-! ### in, not in -/
def memD (x c : D) : M D := ofB fun S => match x, c with
  | .str x, .str z => some (!(Builtin.Str.occurrences z x 0 z.length 1).isEmpty)
  | _, _ => inB S x c
def nmemD (x c : D) : M D := ofB fun S => match x, c with
  | .str x, .str z => some (!(!(Builtin.Str.occurrences z x 0 z.length 1).isEmpty))
  | _, _ => (inB S x c).map (!·)
section
variable {X : Cx} {Γ : Nat → Addr} {E : XK}
theorem od_in (hu : X.A.units + 65 < cLine) : OpD X Γ E (compareOp .In) memD := by
  intro pins s σ H x y v u Q I rx ry ⟨φ, S, dx, dy, sm, r1, r2, p⟩
  obtain ⟨b, h, q⟩ := ofB_post sm p
  split at h
  · cases r1; cases r2
    cases h
    exact op_in_str pins s σ H _ _ v u Q I rx ry ⟨_, _, rfl, rfl, q⟩
  · exact (in_seqD hu I rx ry sm r1 r2 h).1 q
theorem od_notIn (hu : X.A.units + 65 < cLine) : OpD X Γ E (compareOp .NotIn) nmemD := by
  intro pins s σ H x y v u Q I rx ry ⟨φ, S, dx, dy, sm, r1, r2, p⟩
  obtain ⟨b, h, q⟩ := ofB_post sm p
  split at h
  · cases r1; cases r2
    cases h
    exact op_notin_str pins s σ H _ _ v u Q I rx ry ⟨_, _, rfl, rfl, q⟩
  · obtain ⟨c, h', rfl⟩ := Option.map_eq_some_iff.mp h
    exact (in_seqD hu I rx ry sm r1 r2 h').2 q
end

/-! ### chains -/
section
variable {X : Cx} {Γ : Nat → Addr} {E : XK} {a b c : Expr} {ma mb mc : Env → M D} {pos : Pos}
def chM (f g : D → D → M D) (ma mb mc : Env → M D) : Env → M D := fun r => do
  let x ← ma r
  let y ← mb r
  let z ← f x y
  let k ← asB z
  if k = true then (do
    let w ← mc r
    g y w) else pure (.bl false)
theorem re_chain {op op' : CmpOp} {f g : D → D → M D} (ho : OpD X Γ E (compareOp op) f) (ho' : OpD X Γ E (compareOp op') g) (ha : RE X Γ E a ma) (hb : RE X Γ E b mb) (hc : RE X Γ E c mc)
    (hm : lastMarks [op, op'] [b, c] = false := by with_unfolding_all rfl) : RE X Γ E (.Compare a [op, op'] [b, c] pos) (chM f g ma mb mc) := by
  refine PE.weaken (pe_chain ho ho' ha hb hc hm) fun σ H Q ⟨φ, r, S, s, q, p⟩ => ?_
  refine tE_bnd s q p fun φ1 S1 d1 v1 H1 e1 s1 q1 r1 p1 => ?_
  refine tE_bnd s1 q1 p1 fun φ2 S2 d2 v2 H2 e2 s2 q2 r2 p2 => ?_
  refine ⟨φ2, S2, d1, d2, s2, RelD.mono e2 _ _ r1, r2, ?_⟩
  refine (Post.bnd (rel := rD X.K) p2).imp fun v3 H3 ⟨φ3, S3, d3, e3, s3, r3, p3⟩ => ?_
  obtain ⟨k, rfl, p4⟩ := asB_bnd r3 p3
  refine ⟨k, rfl, ?_⟩
  cases k with
  | true =>
    exact tE_bnd s3 (q2.mono e3) p4 fun φ4 S4 d4 v4 H4 e4 s4 q4 r4 p5 => ⟨φ4, S4, d2, d4, s4, RelD.mono (e3.trans e4) _ _ r2, r4, p5⟩
  | false => exact p4.val s3 (.bl false)
theorem rt_chain {op op' : CmpOp} {f g : D → D → M D} (ho : OpD X Γ E (compareOp op) f) (ho' : OpD X Γ E (compareOp op') g) (ha : RE X Γ E a ma) (hb : RE X Γ E b mb) (hc : RE X Γ E c mc)
    (hm : lastMarks [op, op'] [b, c] = false := by with_unfolding_all rfl) : RT X Γ E (.Compare a [op, op'] [b, c] pos) (tstM (chM f g ma mb mc)) := by
  refine PT.weaken (pt_chain ho ho' ha hb hc hm) fun σ H Q ⟨φ, r, S, s, q, p⟩ => ?_
  have p0 : Post X.K Γ E rB φ H (((chM f g ma mb mc r) >>= asB) S) Q := p
  unfold chM at p0
  rw [bnd_assoc] at p0
  refine tE_bnd s q p0 fun φ1 S1 d1 v1 H1 e1 s1 q1 r1 p1 => ?_
  rw [bnd_assoc] at p1
  refine tE_bnd s1 q1 p1 fun φ2 S2 d2 v2 H2 e2 s2 q2 r2 p2 => ?_
  rw [bnd_assoc] at p2
  refine ⟨φ2, S2, d1, d2, s2, RelD.mono e2 _ _ r1, r2, ?_⟩
  refine (Post.bnd (rel := rD X.K) p2).imp fun v3 H3 ⟨φ3, S3, d3, e3, s3, r3, p3⟩ => ?_
  rw [bnd_assoc] at p3
  obtain ⟨k, rfl, p4⟩ := asB_bnd r3 p3
  refine ⟨k, rfl, ?_⟩
  cases k with
  | true =>
    have p5 : Post X.K Γ E rB φ3 H3 (((mc r >>= fun w => g d2 w) >>= asB) S3) Q := p4
    rw [bnd_assoc] at p5
    exact tE_bnd s3 (q2.mono e3) p5 fun φ4 S4 d4 v4 H4 e4 s4 q4 r4 p6 => ⟨φ4, S4, d2, d4, s4, RelD.mono (e3.trans e4) _ _ r2, r4, (Post.bnd (rel := rD X.K) p6).imp fun v H5 ⟨φ5, S5, d, e5, s5, rv, p7⟩ => asB_post s5 rv p7⟩
  | false => exact asB_post s3 (.bl false) (show Post X.K Γ E rB φ3 H3 (asB (.bl false) S3) Q from p4)
end

open PySem PySem.Spec PyProof.Rows L2

/-! ### lists by their items -/
def unInt : D → Option Int
  | .int i => some i
  | _ => none
def unBl : D → Option Bool
  | .bl b => some b
  | _ => none
def unStr : D → Option Str
  | .str x => some x
  | _ => none
def allOf {α : Type} (f : D → Option α) : List D → Option (List α)
  | [] => some []
  | x :: xs => match f x, allOf f xs with
    | some a, some r => some (a :: r)
    | _, _ => none
/-- a list that is read -/
def seqL (S : Sto) : D → Option (List D)
  | .fl xs => some xs
  | .ref n => match S[n]? with
    | some (.lst xs) => some xs
    | _ => none
  | _ => none
section
variable {K : PySem.W.Frag} {Γ : Nat → Addr} {φ : List Addr} {S : Sto} {H : Hp}
theorem allOf_rel {α : Type} {f : D → Option α} {g : α → V} (h : ∀ d a v, f d = some a → RelD K H φ d v → v = g a) : ∀ {ds : List D} {vs : List V} {as : List α}, allOf f ds = some as → RelDs K H φ ds vs → vs = as.map g
  | [], _, _, e, r => by
    cases r
    unfold allOf at e
    cases e
    rfl
  | d :: ds, _, _, e, r => by
    cases r with
    | cons r1 r2 =>
      unfold allOf at e
      split at e
      · rename_i a q h1 h2
        cases e
        rw [h d a _ h1 r1, allOf_rel h h2 r2]
        rfl
      · cases e
theorem unInt_rel (d : D) (a : Int) (v : V) (h : unInt d = some a) (r : RelD K H φ d v) : v = .int a := by
  cases d <;> simp [unInt] at h
  subst h
  cases r
  rfl
theorem unBl_rel (d : D) (a : Bool) (v : V) (h : unBl d = some a) (r : RelD K H φ d v) : v = .bl a := by
  cases d <;> simp [unBl] at h
  subst h
  cases r
  rfl
theorem unStr_rel (d : D) (a : Str) (v : V) (h : unStr d = some a) (r : RelD K H φ d v) : v = .str a := by
  cases d <;> simp [unStr] at h
  subst h
  cases r
  rfl
theorem seqL_rel (s : Sim K Γ φ S H) {d : D} {v : V} {xs : List D} (h : seqL S d = some xs) (r : RelD K H φ d v) : ∃ a vs, v = .ref a ∧ SqL K H a vs ∧ RelDs K H φ xs vs := by
  cases d with
  | fl ys =>
    unfold seqL at h
    cases h
    cases r with
    | fl hf hr => exact ⟨_, _, rfl, hf.sq, hr⟩
  | ref n =>
    unfold seqL at h
    cases r with
    | ref hq =>
      cases hS : S[n]? with
      | none => simp only [hS] at h; cases h
      | some o =>
        cases o with
        | lst ys =>
          simp only [hS] at h
          cases h
          obtain ⟨vs, h1, h2⟩ := s.obj n _ _ hS hq
          exact ⟨_, vs, rfl, SqL.of h1, h2⟩
        | dK _ => simp only [hS] at h; cases h
        | dT _ => simp only [hS] at h; cases h
        | ins _ _ => simp only [hS] at h; cases h
        | exo _ _ => simp only [hS] at h; cases h
        | exd _ => simp only [hS] at h; cases h
  | _ => unfold seqL at h; cases h
theorem relDs_at {ds : List D} {vs : List V} {i : Int} {d : D} (r : RelDs K H φ ds vs) (h : atI ds i = some d) : ∃ v, atI vs i = some v ∧ RelD K H φ d v := by
  unfold atI at h ⊢
  rw [← RelDs.length r]
  cases e : ixN ds.length i with
  | none => rw [e] at h; cases h
  | some j =>
    rw [e] at h
    exact RelDs.get r h
end

/-! ### built-in functions -/
def lenD : List D → M D
  | [d] => fun S => match d with
    | .str x => if x.length ≤ sizeLine then .ok (.int x.length) S else .no
    | .tup xs => .ok (.int xs.length) S
    | .fl xs => .ok (.int xs.length) S
    | .ref n => match S[n]? with
      | some (.lst xs) => .ok (.int xs.length) S
      | some (.dK xs) => .ok (.int xs.length) S
      | _ => .no
    | _ => .no
  | _ => stuck
def absD : List D → M D
  | [.int i] => pure (.int (if i < 0 then -i else i))
  | _ => stuck
def sumD : List D → M D
  | [d] => fun S => match seqL S d with
    | some xs => match allOf unInt xs with
      | some ns => .ok (.int ns.sum) S
      | none => .no
    | none => .no
  | _ => stuck
def allD : List D → M D
  | [d] => fun S => match seqL S d with
    | some xs => match allOf unBl xs with
      | some ns => .ok (.bl (ns.all id)) S
      | none => .no
    | none => .no
  | _ => stuck
def anyD : List D → M D
  | [d] => fun S => match seqL S d with
    | some xs => match allOf unBl xs with
      | some ns => .ok (.bl (ns.any id)) S
      | none => .no
    | none => .no
  | _ => stuck
def tupleD : List D → M D
  | [.tup xs] => pure (.tup xs)
  | [d] => fun S => match seqL S d with
    | some xs => .ok (.tup xs) S
    | none => .no
  | _ => stuck
def listD : List D → M D
  | [.tup xs] => newO (.lst xs)
  | [d] => fun S => match seqL S d with
    | some xs => newO (.lst xs) S
    | none => .no
  | _ => stuck
def intD : List D → M D
  | [.int i] => pure (.int i)
  | [.bl b] => pure (.int (if b then 1 else 0))
  | _ => stuck
def showB (S : Sto) (d : D) : Option Str := match toPy S deep d with
  | some p => if p.depth ≤ 64 ∧ p.showable = true ∧ p.shown.length ≤ sizeLine then some p.shown else none
  | none => none
def reprD : List D → M D
  | [d] => fun S => match showB S d with
    | some z => .ok (.str z) S
    | none => .no
  | _ => stuck
mutual
theorem noDict : ∀ p : PyData, p.canLay0 = true → p.hasDict = false
  | .none, _ => by simp [PyData.hasDict]
  | .bool _, _ => by simp [PyData.hasDict]
  | .int _, _ => by simp [PyData.hasDict]
  | .str _, _ => by simp [PyData.hasDict]
  | .list xs, h => by
    have := noDicts xs (by simpa [PyData.canLay0] using h)
    simpa [PyData.hasDict] using this
  | .tuple xs, h => by
    have := noDicts xs (by simpa [PyData.canLay0] using h)
    simpa [PyData.hasDict] using this
  | .dict _, h => by simp [PyData.canLay0] at h
theorem noDicts : ∀ ps : List PyData, PyData.canLayAll0 ps = true → PyData.hasDictAll ps = false
  | [], _ => by simp [PyData.hasDictAll]
  | p :: ps, h => by
    have h' : (p.canLay0 && PyData.canLayAll0 ps) = true := by simpa [PyData.canLayAll0] using h
    rw [Bool.and_eq_true] at h'
    simp [PyData.hasDictAll, noDict p h'.1, noDicts ps h'.2]
end
section
variable {X : Cx} {Γ : Nat → Addr} {E : XK}
theorem rel1 {K : PySem.W.Frag} {H : Hp} {φ : List Addr} {d : D} {xs : List V} (r : RelDs K H φ [d] xs) : ∃ v, xs = [v] ∧ RelD K H φ d v := by
  cases r with
  | cons a b => cases b; exact ⟨_, rfl, a⟩
theorem cd_len : CallD X Γ E (.builtin "len") lenD := by
  intro pins s σ H xs us Q I rv ⟨φ, S, ds, sm, r, p⟩
  unfold lenD at p
  split at p
  · rename_i d
    obtain ⟨v, rfl, r1⟩ := rel1 r
    split at p
    · cases r1
      rename_i x
      by_cases hz : x.length ≤ sizeLine
      · rw [if_pos hz] at p
        exact call_len_str pins s σ H _ us Q I rv ⟨_, rfl, hz, p.here sm (.int _)⟩
      · rw [if_neg hz] at p; exact p.elim
    · cases r1 with
      | tup hT hr => exact call_len_seq pins s σ H _ us Q I rv ⟨_, _, rfl, .inr hT, p.here sm (by rw [RelDs.length hr]; exact .int _)⟩
    · cases r1 with
      | fl hF hr => exact call_len_seq pins s σ H _ us Q I rv ⟨_, _, rfl, .inl hF.sq, p.here sm (by rw [RelDs.length hr]; exact .int _)⟩
    · rename_i n
      cases r1 with
      | ref hq =>
        split at p
        · rename_i ys hS
          obtain ⟨vs, h1, h2⟩ := sm.obj n _ _ hS hq
          exact call_len_seq pins s σ H _ us Q I rv ⟨_, _, rfl, .inl (SqL.of h1), p.here sm (by rw [RelDs.length h2]; exact .int _)⟩
        · rename_i ys hS
          obtain ⟨vs, h1, h2⟩ := sm.obj n _ _ hS hq
          exact call_lenD pins s σ H _ us Q I rv ⟨_, _, rfl, h1, p.here sm (by rw [Paired.length h2]; exact .int _)⟩
        · exact p.elim
    · exact p.elim
  · exact p.elim
theorem cd_abs : CallD X Γ E (.builtin "abs") absD := by
  intro pins s σ H xs us Q I rv ⟨φ, S, ds, sm, r, p⟩
  unfold absD at p
  split at p
  · obtain ⟨v, rfl, r1⟩ := rel1 r
    cases r1
    exact call_abs pins s σ H _ us Q I rv ⟨_, rfl, p.val sm (.int _)⟩
  · exact p.elim
theorem cd_sum (hc : X.calm = true) : CallD X Γ E (.builtin "sum") sumD := by
  intro pins s σ H xs us Q I rv ⟨φ, S, ds, sm, r, p⟩
  unfold sumD at p
  split at p
  · obtain ⟨v, rfl, r1⟩ := rel1 r
    split at p
    · rename_i ys hy
      split at p
      · rename_i ns hn
        obtain ⟨a, vs, rfl, h1, h2⟩ := seqL_rel sm hy r1
        have e := allOf_rel unInt_rel hn h2
        subst e
        exact cr_sum hc pins s σ H _ us Q I rv ⟨a, ns, rfl, h1, p.here sm (.int _)⟩
      · exact p.elim
    · exact p.elim
  · exact p.elim
theorem cd_all (hc : X.calm = true) : CallD X Γ E (.builtin "all") allD := by
  intro pins s σ H xs us Q I rv ⟨φ, S, ds, sm, r, p⟩
  unfold allD at p
  split at p
  · obtain ⟨v, rfl, r1⟩ := rel1 r
    split at p
    · rename_i ys hy
      split at p
      · rename_i ns hn
        obtain ⟨a, vs, rfl, h1, h2⟩ := seqL_rel sm hy r1
        have e := allOf_rel unBl_rel hn h2
        subst e
        exact cr_all hc pins s σ H _ us Q I rv ⟨a, ns, rfl, h1, p.here sm (.bl _)⟩
      · exact p.elim
    · exact p.elim
  · exact p.elim
theorem cd_any (hc : X.calm = true) : CallD X Γ E (.builtin "any") anyD := by
  intro pins s σ H xs us Q I rv ⟨φ, S, ds, sm, r, p⟩
  unfold anyD at p
  split at p
  · obtain ⟨v, rfl, r1⟩ := rel1 r
    split at p
    · rename_i ys hy
      split at p
      · rename_i ns hn
        obtain ⟨a, vs, rfl, h1, h2⟩ := seqL_rel sm hy r1
        have e := allOf_rel unBl_rel hn h2
        subst e
        exact cr_any hc pins s σ H _ us Q I rv ⟨a, ns, rfl, h1, p.here sm (.bl _)⟩
      · exact p.elim
    · exact p.elim
  · exact p.elim
theorem cd_tuple : CallD X Γ E (.type "tuple") tupleD := by
  intro pins s σ H xs us Q I rv ⟨φ, S, ds, sm, r, p⟩
  unfold tupleD at p
  split at p
  · obtain ⟨v, rfl, r1⟩ := rel1 r
    cases r1 with
    | tup hT hr => exact call_tuple_of pins s σ H _ us Q I rv ⟨_, _, rfl, .inr ⟨hT, p.val sm (.tup hT hr)⟩⟩
  · obtain ⟨v, rfl, r1⟩ := rel1 r
    dsimp only at p
    split at p
    · rename_i ys hy
      obtain ⟨a, vs, rfl, h1, h2⟩ := seqL_rel sm hy r1
      exact call_tuple_of pins s σ H _ us Q I rv ⟨_, _, rfl, .inl ⟨h1, Post.newT sm h2 p⟩⟩
    · exact p.elim
  · exact p.elim
theorem cd_list : CallD X Γ E (.type "list") listD := by
  intro pins s σ H xs us Q I rv ⟨φ, S, ds, sm, r, p⟩
  unfold listD at p
  split at p
  · obtain ⟨v, rfl, r1⟩ := rel1 r
    cases r1 with
    | tup hT hr => exact call_list_of pins s σ H _ us Q I rv ⟨_, _, rfl, .inr hT, Post.newL sm hr p⟩
  · obtain ⟨v, rfl, r1⟩ := rel1 r
    dsimp only at p
    split at p
    · rename_i ys hy
      obtain ⟨a, vs, rfl, h1, h2⟩ := seqL_rel sm hy r1
      exact call_list_of pins s σ H _ us Q I rv ⟨_, _, rfl, .inl h1, Post.newL sm h2 p⟩
    · exact p.elim
  · exact p.elim
theorem cd_int : CallD X Γ E (.type "int") intD := by
  intro pins s σ H xs us Q I rv ⟨φ, S, ds, sm, r, p⟩
  unfold intD at p
  split at p
  · obtain ⟨v, rfl, r1⟩ := rel1 r
    cases r1
    exact call_int1 pins s σ H _ us Q I rv (.inl ⟨_, rfl, p.val sm (.int _)⟩)
  · obtain ⟨v, rfl, r1⟩ := rel1 r
    cases r1
    exact call_int1 pins s σ H _ us Q I rv (.inr ⟨_, rfl, p.val sm (.int _)⟩)
  · exact p.elim
theorem not_sys (hz : SysIn X.base) {pins : List (Addr × Obj)} {s : Shared} {σ : Sl} {H : Hp} (I : Inv X pins σ H s) {a : Addr} {o : Obj} {its : Array Value} {n : Nat} (h : s.heap.get? a = some o) (hd : o.data = .seq its n) : sysModules ≠ a := by
  obtain ⟨m, hm⟩ := hz
  obtain ⟨o', es, ep, e, d, _⟩ := hm.keeps I.bk
  rintro rfl
  rw [h] at e
  cases e
  rw [hd] at d
  cases d
theorem readsAll_of {s : Shared} {H : Hp} {φ : List Addr} {f : D → Option PyData} (h : ∀ d v p u, f d = some p → RelD X.K H φ d v → RelV v u → ∃ as, Reads s.heap u p as ∧ sysModules ∉ as) :
    ∀ {ds : List D} {vs : List V} {us : List Value} {ps : List PyData}, toPys f ds = some ps → RelDs X.K H φ ds vs → Vals vs us → ∃ as, ReadsAll s.heap us ps as ∧ sysModules ∉ as
  | [], _, _, _, e, r, rv => by
    cases r
    cases rv
    unfold toPys at e
    cases e
    exact ⟨_, .nil, List.not_mem_nil⟩
  | d :: ds, _, _, _, e, r, rv => by
    cases r with
    | cons r1 r2 =>
      cases rv with
      | cons v1 v2 =>
        obtain ⟨p, q, rfl, h1, h2⟩ := toPys_cons e
        obtain ⟨as, k1, n1⟩ := h _ _ _ _ h1 r1 v1
        obtain ⟨bs, k2, n2⟩ := readsAll_of h h2 r2 v2
        exact ⟨_, .cons k1 k2, fun z => (List.mem_append.mp z).elim n1 n2⟩
theorem keyPy_reads {P : Program} {w : World} {h : Heap} (k : Key) (key : Value) (e : (mixKind P w).is k key = true) : Reads h key (keyPy k) [] := by
  have e' : keyIs k key = true := e
  rcases keyIs_shape e' with ⟨i, t, rfl, rfl⟩ | ⟨x, t, rfl, rfl⟩
  · exact .int i t
  · exact .str x t
theorem pairs_of {s : Shared} {H : Hp} {φ : List Addr} {f : D → Option PyData} (h : ∀ d v p u, f d = some p → RelD X.K H φ d v → RelV v u → ∃ as, Reads s.heap u p as ∧ sysModules ∉ as) :
    ∀ {ds : List (Key × D)} {vs : List (Key × V)} {us : List (Key × Value)} {ps : List (PyData × PyData)}, toPyK f ds = some ps → RelKv X.K H φ ds vs → KV vs us → ∃ as, PyProof.V.PairsRead s.heap keyPy us ps as ∧ sysModules ∉ as
  | [], _, _, _, e, r, rv => by
    cases r
    cases rv
    unfold toPyK at e
    cases e
    exact ⟨_, .nil, List.not_mem_nil⟩
  | (k, d) :: ds, _, _, _, e, r, rv => by
    cases r with
    | @cons _ q _ qs r1 r2 =>
      cases rv with
      | @cons _ t _ ts v1 v2 =>
        unfold toPyK at e
        split at e
        · rename_i p r3 h1 h2
          cases e
          obtain ⟨k1, d1⟩ := q
          obtain ⟨k2, u2⟩ := t
          obtain ⟨e1, r1⟩ := r1
          obtain ⟨e2, v1⟩ := v1
          obtain rfl : k = k1 := e1
          obtain rfl : k = k2 := e2
          obtain ⟨as, z1, n1⟩ := h _ _ _ _ h1 r1 v1
          obtain ⟨bs, z2, n2⟩ := pairs_of h h2 r2 v2
          exact ⟨_, .cons z1 z2, fun z => (List.mem_append.mp z).elim n1 n2⟩
        · cases e
theorem reads_of (hz : SysIn X.base) {pins : List (Addr × Obj)} {s : Shared} {σ : Sl} {H : Hp} {φ : List Addr} {S : Sto} (I : Inv X pins σ H s) (sm : Sim X.K Γ φ S H) : ∀ (n : Nat) (d : D) (v : V) (p : PyData) (u : Value), toPy S n d = some p → RelD X.K H φ d v → RelV v u → ∃ as, Reads s.heap u p as ∧ sysModules ∉ as
  | n, .non, _, _, _, e, r, rv => by cases r; cases rv; cases n <;> (unfold toPy at e; cases e; exact ⟨_, .none, List.not_mem_nil⟩)
  | n, .bl b, _, _, _, e, r, rv => by cases r; cases rv; cases n <;> (unfold toPy at e; cases e; exact ⟨_, .bool b, List.not_mem_nil⟩)
  | n, .int i, _, _, _, e, r, rv => by cases r; obtain ⟨t, rfl⟩ := rv; cases n <;> (unfold toPy at e; cases e; exact ⟨_, .int i t, List.not_mem_nil⟩)
  | n, .str x, _, _, _, e, r, rv => by cases r; obtain ⟨t, rfl⟩ := rv; cases n <;> (unfold toPy at e; cases e; exact ⟨_, .str x t, List.not_mem_nil⟩)
  | 0, .tup _, _, _, _, e, _, _ => by unfold toPy at e; cases e
  | 0, .fl _, _, _, _, e, _, _ => by unfold toPy at e; cases e
  | 0, .ref _, _, _, _, e, _, _ => by unfold toPy at e; cases e
  | n + 1, .tup xs, _, _, _, e, r, rv => by
    unfold toPy at e
    obtain ⟨ps, h1, rfl⟩ := Option.map_eq_some_iff.mp e
    cases r with
    | tup hT hr =>
      cases rv
      obtain ⟨its, v1, ⟨o, ho, hc, k, hd⟩, _⟩ := I.tuple hT
      obtain ⟨as, q, nn⟩ := readsAll_of (fun d v p u h1 h2 h3 => reads_of hz I sm n d v p u h1 h2 h3) h1 hr v1
      exact ⟨_, .tuple ho hc hd q, nn⟩
  | n + 1, .fl xs, _, _, _, e, r, rv => by
    unfold toPy at e
    obtain ⟨ps, h1, rfl⟩ := Option.map_eq_some_iff.mp e
    cases r with
    | fl hF hr =>
      cases rv
      obtain ⟨its, v1, ⟨o, k, ho, hc, _, hd⟩, _⟩ := I.list hF.sq
      obtain ⟨as, q, nn⟩ := readsAll_of (fun d v p u h1 h2 h3 => reads_of hz I sm n d v p u h1 h2 h3) h1 hr v1
      exact ⟨_, .list ho hc hd q, fun z => (List.mem_cons.mp z).elim (not_sys hz I ho hd) nn⟩
  | n + 1, .ref k, _, _, _, e, r, rv => by
    unfold toPy at e
    cases r with
    | ref hq =>
      cases rv
      cases hS : S[k]? with
      | none => simp only [hS] at e; cases e
      | some o =>
        cases o with
        | lst xs =>
          simp only [hS] at e
          obtain ⟨ps, h1, rfl⟩ := Option.map_eq_some_iff.mp e
          obtain ⟨vs, h2, h3⟩ := sm.obj k _ _ hS hq
          obtain ⟨its, v1, ⟨o, k, ho, hc, _, hd⟩, _⟩ := I.list (SqL.of h2)
          obtain ⟨as, q, nn⟩ := readsAll_of (fun d v p u h1 h2 h3 => reads_of hz I sm n d v p u h1 h2 h3) h1 h3 v1
          exact ⟨_, .list ho hc hd q, fun z => (List.mem_cons.mp z).elim (not_sys hz I ho hd) nn⟩
        | dK kvs =>
          simp only [hS] at e
          obtain ⟨ps, h1, rfl⟩ := Option.map_eq_some_iff.mp e
          obtain ⟨vs, h2, h3⟩ := sm.obj k _ _ hS hq
          obtain ⟨_, lo, us, rel, dd⟩ := dk_of I.hok h2
          obtain ⟨as, q, nn⟩ := pairs_of (fun d v p u h1 h2 h3 => reads_of hz I sm n d v p u h1 h2 h3) h1 h3 rel
          refine ⟨_, PyProof.V.reads_dictOf keyPy_reads dd q, fun z => (List.mem_cons.mp z).elim (fun z => ?_) nn⟩
          rw [← z] at lo
          exact absurd lo (by decide)
        | dT kvs => simp only [hS] at e; cases e
        | ins _ _ => simp only [hS] at e; cases e
        | exo _ _ => simp only [hS] at e; cases e
        | exd _ => simp only [hS] at e; cases e
theorem cd_repr (hz : SysIn X.base) (hq : Quiet X.A) (hu : X.A.units + 100 < cLine) : CallD X Γ E (.builtin "repr") reprD := by
  intro pins s σ H xs us Q I rv ⟨φ, S, ds, sm, r, p⟩
  unfold reprD at p
  split at p
  · rename_i d
    obtain ⟨v, rfl, r1⟩ := rel1 r
    split at p
    · rename_i z hz'
      have q := p.here sm (.str z)
      unfold showB at hz'
      split at hz'
      · rename_i pd hp
        by_cases hs : pd.depth ≤ 64 ∧ pd.showable = true ∧ pd.shown.length ≤ sizeLine
        · rw [if_pos hs] at hz'
          have e : pd.shown = z := Option.some.inj hz'
          obtain ⟨hdp, h2, h3⟩ := hs
          obtain ⟨u, rfl, ru⟩ := vals1 rv
          obtain ⟨as, rd, ns⟩ := reads_of hz I sm _ _ _ _ _ hp r1 ru
          have fin : ∀ (h' : Heap) (t : Tok) (tk : Nat), (∀ b o, s.heap.get? b = some o → h'.get? b = some o) → EP X pins σ Q (.str pd.shown t) { s with heap := h', toks := tk } := fun h' t tk k => ⟨.str z, H, I.kept k, ⟨t, by rw [e]⟩, q⟩
          have base : ∀ (t : Tok) (tk : Nat), EP X pins σ Q (.str pd.shown t) { s with toks := tk } := fun t tk => ⟨.str z, H, I.tok tk, ⟨t, by rw [e]⟩, q⟩
          cases rd with
          | none => exact P.repr_of_none (base _ _)
          | bool b => exact P.repr_of_bool (base _ _)
          | int i t => exact P.repr_of_int (by simpa [PyData.showable] using h2) (base _ _)
          | str x t => exact P.repr_of_str (base _ _) (by simpa [PyData.shown] using h3)
          | list a1 a2 a3 a4 => exact repr_of_reads' (.list a1 a2 a3 a4) h2 (fun _ => ns) hq (by omega) (fun _ _ z => z) (fun h' t tk k => fin h' t tk k) h3
          | tuple a1 a2 a3 a4 => exact repr_of_reads' (.tuple a1 a2 a3 a4) h2 (fun _ => ns) hq (by omega) (fun _ _ z => z) (fun h' t tk k => fin h' t tk k) h3
          | dict a1 a2 a3 a4 a5 => exact repr_of_reads' (.dict a1 a2 a3 a4 a5) h2 (fun _ => ns) hq (by omega) (fun _ _ z => z) (fun h' t tk k => fin h' t tk k) h3
        · rw [if_neg hs] at hz'; cases hz'
      · cases hz'
    · exact p.elim
  · exact p.elim
end

open PySem PySem.Spec PyProof.Rows L2

/-! ### isinstance -/
inductive Tn where
  | tInt | tBool | tStr | tTuple | tList | tDict | tNone
  deriving DecidableEq
def Tn.nm : Tn → String
  | .tInt => "int" | .tBool => "bool" | .tStr => "str" | .tTuple => "tuple" | .tList => "list" | .tDict => "dict" | .tNone => "NoneType"
def Tn.sub : Tn → Tn → Bool
  | .tBool, .tInt => true
  | .tInt, .tInt => true
  | .tBool, .tBool => true
  | .tStr, .tStr => true
  | .tTuple, .tTuple => true
  | .tList, .tList => true
  | .tDict, .tDict => true
  | .tNone, .tNone => true
  | _, _ => false
theorem kit_tn {K : PySem.W.Frag} : ∀ a b : Tn, PySem.W.kitOne K (.type a.nm) (.type b.nm) = some (a.sub b) := fun a b => by
  refine kit_ty ?_
  cases a <;> cases b <;> decide +kernel
theorem boot_tn : ∀ T : Tn, T ≠ .tNone → bootBuiltins (Str.ofString T.nm) = some (.type T.nm) := fun T h => by
  cases T <;> first | decide +kernel | exact absurd rfl h
def tyTn (S : Sto) : D → Option Tn
  | .non => some .tNone
  | .bl _ => some .tBool
  | .int _ => some .tInt
  | .str _ => some .tStr
  | .tup _ => some .tTuple
  | .fl _ => some .tList
  | .ref n => match S[n]? with
    | some (.lst _) => some .tList
    | some (.dK _) => some .tDict
    | some (.dT _) => some .tDict
    | _ => none
theorem tyTn_rel {K : PySem.W.Frag} {Γ : Nat → Addr} {φ : List Addr} {S : Sto} {H : Hp} {d : D} {v : V} {t : Tn} (s : Sim K Γ φ S H) (h : tyTn S d = some t) (r : RelD K H φ d v) : TyX K H v (.type t.nm) := by
  cases r with
  | non => cases h; exact .base .non
  | bl b => cases h; exact .base (.bl b)
  | int i => cases h; exact .base (.int i)
  | str x => cases h; exact .base (.str x)
  | tup hT hr =>
    cases h
    rcases hT with (e | ⟨o, e⟩) | ⟨o, its, n, e, c, _⟩
    · exact .base (.tup e)
    · exact .fTuple e
    · exact .kTuple e c
  | fl hF hr =>
    cases h
    rcases hF with ⟨u, e⟩ | ⟨o, its, n, e, c, _⟩
    · exact .base (.frz e)
    · exact .kList e c
  | @ref n a hq =>
    unfold tyTn at h
    cases hS : S[n]? with
    | none => simp only [hS] at h; cases h
    | some o =>
      cases o with
      | lst xs =>
        simp only [hS] at h
        cases h
        obtain ⟨vs, h1, _⟩ := s.obj n _ _ hS hq
        exact .base (.lst h1)
      | dK xs =>
        simp only [hS] at h
        cases h
        obtain ⟨vs, h1, _⟩ := s.obj n _ _ hS hq
        exact .base (.dK h1)
      | dT xs =>
        simp only [hS] at h
        cases h
        obtain ⟨vs, h1, _⟩ := s.obj n _ _ hS hq
        exact .base (.dT h1)
      | ins _ _ => simp only [hS] at h; cases h
      | exo _ _ => simp only [hS] at h; cases h
      | exd _ => simp only [hS] at h; cases h
def isiM (T : Tn) (m : Env → M D) : Env → M D := fun r => do
  let d ← m r
  fun S => match tyTn S d with
    | some t => .ok (.bl (t.sub T)) S
    | none => .no
def isi2M (T U : Tn) (m : Env → M D) : Env → M D := fun r => do
  let d ← m r
  fun S => match tyTn S d with
    | some t => .ok (.bl (t.sub T || t.sub U)) S
    | none => .no
section
variable {X : Cx} {Γ : Nat → Addr} {E : XK} {a b c e : Expr} {es : List Expr} {ma mb mc : Env → M D} {pos p pT pU pt : Pos}
theorem re_isi (T : Tn) (he : RE X Γ E e ma) (hg : Gl X "isinstance") (hm : X.mg "isinstance" = none) (hgT : Gl X (Str.ofString T.nm)) (hmT : X.mg (Str.ofString T.nm) = none) (hT : T ≠ .tNone := by decide)
    (h1 : starEach [e, .Name (Str.ofString T.nm) pT] X.env = (false, eval e X.env) :: starEach [.Name (Str.ofString T.nm) pT] X.env := by rfl) (h2 : (backTo pos (starEach [.Name (Str.ofString T.nm) pT] X.env)).any (·.1) = false := by rfl)
    (h3 : starEach [.Name (Str.ofString T.nm) pT] X.env = [(false, eval (.Name (Str.ofString T.nm) pT) X.env)] := by rfl) : RE X Γ E (.Call (.Name "isinstance" p) [e, .Name (Str.ofString T.nm) pT] [] pos) (isiM T ma) := by
  have hb : PE X (.Name (Str.ofString T.nm) pT) (tC (.ty T.nm)) := pe_bltn hgT hmT (boot_tn T hT) rfl (by cases T <;> decide) (by cases T <;> decide)
  refine PE.weaken (pe_callB call_isi hg hm (by decide +kernel) (pa_cons he (pa_cons hb pa_nil h3) h1) (by decide) (by decide) h1 h2) fun σ H Q ⟨φ, r, S, s, q, p⟩ => ?_
  refine tE_bnd s q p fun φ1 S1 d v H1 e1 s1 q1 rv p1 => ?_
  cases ht : tyTn S1 d with
  | none => simp only [ht] at p1; exact p1.elim
  | some t =>
    simp only [ht] at p1
    exact ⟨v, .ty T.nm, _, _, t.sub T, rfl, .ty _, tyTn_rel s1 ht rv, kit_tn t T, p1.here s1 (.bl _)⟩
theorem re_isi2 {kt : Nat} (T U : Tn) (he : RE X Γ E e ma) (hg : Gl X "isinstance") (hm : X.mg "isinstance" = none) (hgT : Gl X (Str.ofString T.nm)) (hmT : X.mg (Str.ofString T.nm) = none) (hgU : Gl X (Str.ofString U.nm)) (hmU : X.mg (Str.ofString U.nm) = none) (hT : T ≠ .tNone := by decide) (hU : U ≠ .tNone := by decide)
    (h1 : starEach [e, .Tuple [.Name (Str.ofString T.nm) pT, .Name (Str.ofString U.nm) pU] kt pt] X.env = (false, eval e X.env) :: starEach [.Tuple [.Name (Str.ofString T.nm) pT, .Name (Str.ofString U.nm) pU] kt pt] X.env := by rfl)
    (h2 : (backTo pos (starEach [.Tuple [.Name (Str.ofString T.nm) pT, .Name (Str.ofString U.nm) pU] kt pt] X.env)).any (·.1) = false := by rfl)
    (h3 : starEach [.Tuple [.Name (Str.ofString T.nm) pT, .Name (Str.ofString U.nm) pU] kt pt] X.env = [(false, eval (.Tuple [.Name (Str.ofString T.nm) pT, .Name (Str.ofString U.nm) pU] kt pt) X.env)] := by rfl)
    (h4 : starEach [.Name (Str.ofString T.nm) pT, .Name (Str.ofString U.nm) pU] X.env = (false, eval (.Name (Str.ofString T.nm) pT) X.env) :: starEach [.Name (Str.ofString U.nm) pU] X.env := by rfl)
    (h5 : starEach [.Name (Str.ofString U.nm) pU] X.env = [(false, eval (.Name (Str.ofString U.nm) pU) X.env)] := by rfl) :
    RE X Γ E (.Call (.Name "isinstance" p) [e, .Tuple [.Name (Str.ofString T.nm) pT, .Name (Str.ofString U.nm) pU] kt pt] [] pos) (isi2M T U ma) := by
  have hbT : PE X (.Name (Str.ofString T.nm) pT) (tC (.ty T.nm)) := pe_bltn hgT hmT (boot_tn T hT) rfl (by cases T <;> decide) (by cases T <;> decide)
  have hbU : PE X (.Name (Str.ofString U.nm) pU) (tC (.ty U.nm)) := pe_bltn hgU hmU (boot_tn U hU) rfl (by cases U <;> decide) (by cases U <;> decide)
  refine PE.weaken (pe_callB call_isiT hg hm (by decide +kernel) (pa_cons he (pa_cons (pe_tup (pa_cons hbT (pa_cons hbU pa_nil h5) h4)) pa_nil h3) h1) (by decide) (by decide) h1 h2) fun σ H Q ⟨φ, r, S, s, q, p⟩ => ?_
  refine tE_bnd s q p fun φ1 S1 d v H1 e1 s1 q1 rv p1 => ?_
  cases ht : tyTn S1 d with
  | none => simp only [ht] at p1; exact p1.elim
  | some t =>
    simp only [ht] at p1
    refine ⟨by show 2 ≤ sizeLine; decide, fun tp htp => ⟨v, tp, [.ty T.nm, .ty U.nm], _, _, _, rfl, upd_same, .cons (.ty _) (.cons (.ty _) .nil), tyTn_rel (s1.hide htp) ht (RelD.mono (Ext.new0 htp) _ _ rv), ?_, p1 φ1 _ _ (Ext.new0 htp) (s1.hide htp) (.bl _)⟩⟩
    unfold PySem.W.kitAny
    rw [kit_tn t T]
    cases t.sub T with
    | true => rfl
    | false =>
      show PySem.W.kitAny X.K (.type t.nm) [.type U.nm] = _
      unfold PySem.W.kitAny
      rw [kit_tn t U]
      cases t.sub U with
      | true => rfl
      | false => rfl

/-! ### subscripts -/
def ixD (x y : D) : M D := fun S => match y with
  | .int i => match x with
    | .str z => if z.length ≤ sizeLine then (match atI z.cps.toList i with
      | some c => .ok (.str ⟨#[c]⟩) S
      | none => .no) else .no
    | .tup xs => match atI xs i with
      | some d => .ok d S
      | none => .no
    | .fl xs => match atI xs i with
      | some d => .ok d S
      | none => .no
    | .ref n => match S[n]? with
      | some (.lst xs) => match atI xs i with
        | some d => .ok d S
        | none => .no
      | _ => .no
    | _ => .no
  | _ => .no
theorem xd_seq : IxD X Γ E ixD := by
  intro value slice pins s σ H x y v u Q I rx ry ⟨φ, S, dx, dy, sm, r1, r2, p⟩ hs
  unfold ixD at p
  split at p
  · cases r2
    refine ix_seq value slice pins s σ H x _ v u Q I rx ry ?_ hs
    split at p
    · cases r1
      rename_i z
      by_cases hz : z.length ≤ sizeLine
      · rw [if_pos hz] at p
        split at p
        · rename_i c hc
          exact .inr (.inr ⟨_, _, c, rfl, rfl, hz, hc, p.here sm (.str _)⟩)
        · exact p.elim
      · rw [if_neg hz] at p; exact p.elim
    · split at p
      · rename_i d hd
        cases r1 with
        | tup hT hr =>
          obtain ⟨w, h1, h2⟩ := relDs_at hr hd
          exact .inr (.inl ⟨_, _, _, w, rfl, rfl, hT, h1, p.here sm h2⟩)
      · exact p.elim
    · split at p
      · rename_i d hd
        cases r1 with
        | fl hF hr =>
          obtain ⟨w, h1, h2⟩ := relDs_at hr hd
          exact .inl ⟨_, _, _, w, rfl, rfl, hF.sq, h1, p.here sm h2⟩
      · exact p.elim
    · split at p
      · rename_i xs hS
        split at p
        · rename_i d hd
          cases r1 with
          | ref hq =>
            obtain ⟨vs, h3, hr⟩ := sm.obj _ _ _ hS hq
            obtain ⟨w, h1, h2⟩ := relDs_at hr hd
            exact .inl ⟨_, _, _, w, rfl, rfl, SqL.of h3, h1, p.here sm h2⟩
        · exact p.elim
      · exact p.elim
    · exact p.elim
  · exact p.elim
theorem re_ix {op : D → D → M D} (hr : IxD X Γ E op) (ha : RE X Γ E a ma) (hb : RE X Γ E b mb) (hs : PlainIx b := by intro _ _; rfl) : RE X Γ E (.Subscript a b pos) (binM op ma mb) :=
  PE.weaken (pe_ix hr ha hb hs) fun σ H Q h => tE_op h fun _ _ _ q => q

/-! ### slices -/
abbrev rO : Hp → List Addr → Option Int → Option Int → Prop := fun _ _ a b => a = b
def tOp_ (K : PySem.W.Frag) (Γ : Nat → Addr) (E : XK) (m : Env → M (Option Int)) : TO := fun σ H Q => ∃ φ r S, Sim K Γ φ S H ∧ RelE K H φ r σ ∧ Post K Γ E rO φ H (m r S) Q
abbrev RO (X : Cx) (Γ : Nat → Addr) (E : XK) (e : Option Expr) (m : Env → M (Option Int)) : Prop := PO X e (tOp_ X.K Γ E m)
theorem PO.weaken {e : Option Expr} {t t' : TO} (h : PO X e t) (k : ∀ σ H Q, t' σ H Q → t σ H Q) : PO X e t' := ⟨fun pins s σ H Q I q => h.run pins s σ H Q I (k σ H Q q)⟩
def noP : Env → M (Option Int) := fun _ => pure none
def someP (m : Env → M D) : Env → M (Option Int) := fun r => do
  let d ← m r
  match d with
  | .int i => pure (some i)
  | _ => stuck
theorem ro_none : RO X Γ E none noP := PO.weaken po_none fun σ H Q ⟨φ, r, S, s, q, p⟩ => p.val (v := none) s rfl
theorem ro_some (h : RE X Γ E e ma) : RO X Γ E (some e) (someP ma) := by
  refine PO.weaken (po_some h) fun σ H Q ⟨φ, r, S, s, q, p⟩ => ?_
  refine tE_bnd s q p fun φ1 S1 d v H1 e1 s1 q1 rv p1 => ?_
  cases d with
  | int i =>
    cases rv
    exact ⟨i, rfl, p1.val (v := some i) s1 rfl⟩
  | _ => exact p1.elim
def cutL {α : Type} (xs : List α) (lo hi : Option Int) : List α := (xs.drop (HT.sIx xs.length 0 lo)).take (HT.sIx xs.length xs.length hi - HT.sIx xs.length 0 lo)
def slD (d : D) (lo hi : Option Int) : M D := fun S => match d with
  | .str z => if z.length ≤ sizeLine then .ok (.str (cutS z lo hi)) S else .no
  | .tup xs => .ok (.tup (cutL xs lo hi)) S
  | _ => match seqL S d with
    | some xs => newO (.lst (cutL xs lo hi)) S
    | none => .no
def slM (m : Env → M D) (ml mh : Env → M (Option Int)) : Env → M D := fun r => do
  let d ← m r
  let lo ← ml r
  let hi ← mh r
  slD d lo hi
theorem cut_rel {K : PySem.W.Frag} {H : Hp} {φ : List Addr} {ds : List D} {vs : List V} {lo hi : Option Int} (r : RelDs K H φ ds vs) : RelDs K H φ (cutL ds lo hi) (cutV vs lo hi) := by
  unfold cutL cutV
  rw [← RelDs.length r]
  exact RelDs.take _ (RelDs.drop _ r)
theorem tO_bnd {K : PySem.W.Frag} {α β' : Type} {m : Env → M (Option Int)} {f : Option Int → M α} {rel' : Hp → List Addr → α → β' → Prop} {φ : List Addr} {r : Env} {S : Sto} {σ : Sl} {H : Hp} {Q : β' → Hp → Prop} {Q' : Option Int → Hp → Prop} (s : Sim K Γ φ S H) (q : RelE K H φ r σ)
    (h : Post K Γ E rel' φ H ((m r >>= f) S) Q) (k : ∀ φ1 S1 d H1, Ext K φ H φ1 H1 → Sim K Γ φ1 S1 H1 → RelE K H1 φ1 r σ → Post K Γ E rel' φ1 H1 (f d S1) Q → Q' d H1) : tOp_ K Γ E m σ H Q' :=
  ⟨φ, r, S, s, q, (Post.bnd (rel := rO) h).imp fun v H1 ⟨φ1, S1, d, e, s1, rv, p⟩ => by
    cases rv
    exact k φ1 S1 v H1 e s1 (q.mono e) p⟩
theorem re_slice {lo hi : Option Expr} {ml mh : Env → M (Option Int)} {p2 : Pos} (he : RE X Γ E e ma) (hl : RO X Γ E lo ml) (hh : RO X Γ E hi mh) : RE X Γ E (.Subscript e (.Slice lo hi none p2) pos) (slM ma ml mh) := by
  refine PE.weaken (pe_slice (sl_list.or (sl_tupA.or sl_str)) he hl hh) fun σ H Q ⟨φ, r, S, s, q, p⟩ => ?_
  refine tE_bnd s q p fun φ1 S1 d v H1 e1 s1 q1 rv p1 => ?_
  refine tO_bnd s1 q1 p1 fun φ2 S2 l H2 e2 s2 q2 p2 => ?_
  refine tO_bnd s2 q2 p2 fun φ3 S3 h H3 e3 s3 q3 p3 => ?_
  have rv3 := RelD.mono (e2.trans e3) _ _ rv
  unfold slD at p3
  split at p3
  · cases rv3
    rename_i z
    by_cases hz : z.length ≤ sizeLine
    · rw [if_pos hz] at p3
      exact .inr (.inr ⟨z, rfl, hz, p3.here s3 (.str _)⟩)
    · rw [if_neg hz] at p3; exact p3.elim
  · cases rv3 with
    | tup hT hr =>
      refine .inr (.inl ⟨_, _, rfl, hT, fun hw => ?_, fun _ => Post.newT s3 (cut_rel hr) p3⟩)
      refine p3.here s3 ?_
      have e : ∀ {α : Type} (ys : List α), HT.sIx ys.length 0 l = 0 → HT.sIx ys.length ys.length h = ys.length → cutL ys l h = ys := fun ys a b => by
        unfold cutL
        rw [a, b]
        simp
      rw [e _ (by rw [RelDs.length hr]; exact hw.1) (by rw [RelDs.length hr]; exact hw.2)]
      exact .tup hT hr
  · split at p3
    · rename_i ys hy
      obtain ⟨a, vs, rfl, h1, h2⟩ := seqL_rel s3 hy rv3
      exact .inl ⟨_, _, rfl, h1, Post.newL s3 (cut_rel h2) p3⟩
    · exact p3.elim

/-! ### stores into a list -/
def addI (x y : D) : M D := match x, y with
  | .int i, .int j => pure (.int (i + j))
  | _, _ => stuck
def setLD (o i d : D) : M Unit := fun S => match o, i with
  | .ref n, .int k => match S[n]? with
    | some (.lst xs) => match ixN xs.length k with
      | some j => .ok () (S.set n (.lst (xs.set j d)))
      | none => .no
    | _ => .no
  | _, _ => .no
/-- a place written -/
theorem Post.put {K : PySem.W.Frag} {α β : Type} {rel : Hp → List Addr → α → β → Prop} {φ : List Addr} {S : Sto} {H : Hp} {n : Nat} {o u : O} {ho : HO} {a : Addr} {r : α} {v : β} {Q : β → Hp → Prop} (s : Sim K Γ φ S H) (hS : S[n]? = some u) (hq : φ[n]? = some a) (mu : Mut (H a))
    (ro : RelO K Γ (upd H a ho) φ a o) (rr : rel (upd H a ho) φ r v) (p : Post K Γ E rel φ H (.ok r (S.set n o)) Q) : Q v (upd H a ho) :=
  p φ _ v (Ext.mut mu hq) (s.set hS hq ro) rr
theorem sd_list : SetD X Γ E setLD := by
  intro pins s σ H o i v ov iv u Q I ro ri rv ⟨φ, S, dO, dI, dV, sm, r1, r2, r3, p⟩
  unfold setLD at p
  split at p
  · rename_i n k
    cases r1 with
    | @ref _ a hq =>
      cases r2
      split at p
      · rename_i xs hS
        split at p
        · rename_i j hj
          obtain ⟨vs, h1, h2⟩ := sm.obj n _ _ hS hq
          have mu : Mut (H a) := by rw [h1]; trivial
          refine set_list pins s σ H _ _ v ov iv u Q I ro ri rv ⟨_, vs, k, j, rfl, rfl, h1, by rw [← RelDs.length h2]; exact hj, ?_⟩
          have e := Ext.mut (K := X.K) (φ := φ) (o := .lst (vs.set j v)) mu hq
          exact Post.put (v := ()) (o := .lst (xs.set j dV)) (ho := .lst (vs.set j v)) (Q := fun _ H' => Q H') (rel := rU) sm hS hq mu ⟨_, upd_same, RelDs.set j (RelDs.mono e _ _ h2) (RelD.mono e _ _ r3)⟩ trivial p
        · exact p.elim
      · exact p.elim
  · exact p.elim
/-- xs[i] read, for an augmented store -/
def getLD (o i : D) : M D := fun S => match o, i with
  | .ref n, .int k => if 0 ≤ k ∧ k < 2 ^ 63 then (match S[n]? with
    | some (.lst xs) => match xs[k.toNat]? with
      | some d => .ok d S
      | none => .no
    | _ => .no) else .no
  | _, _ => .no
theorem gd_list : GetD X Γ E getLD := by
  intro pins s σ H o i ov iv Q I ro ri ⟨φ, S, dO, dI, sm, r1, r2, p⟩
  unfold getLD at p
  split at p
  · rename_i n k
    cases r1 with
    | ref hq =>
      cases r2
      by_cases hk : 0 ≤ k ∧ k < 2 ^ 63
      · rw [if_pos hk] at p
        split at p
        · rename_i xs hS
          split at p
          · rename_i d hd
            obtain ⟨vs, h1, h2⟩ := sm.obj n _ _ hS hq
            obtain ⟨w, h3, h4⟩ := RelDs.get h2 hd
            cases (show ov = Value.ref _ from ro)
            obtain ⟨t, rfl⟩ := ri
            obtain ⟨its, rr, pl, hz⟩ := I.list (SqL.of h1)
            obtain ⟨z, ez, rz⟩ := rr.get h3
            exact wpAny_getItem_list pl.isList hk.1 hk.2 (by simpa using ez) ⟨w, H, I, rz, p.here sm h4⟩
          · exact p.elim
        · exact p.elim
      · rw [if_neg hk] at p; exact p.elim
  · exact p.elim
theorem ip_addI : IpD X Γ E .Add addI := by
  intro pins s σ H x y v u Q I rx ry ⟨φ, S, dx, dy, sm, r1, r2, p⟩
  unfold addI at p
  split at p
  · cases r1; cases r2
    exact ip_add pins s σ H _ _ v u Q I rx ry ⟨_, _, rfl, rfl, p.val sm (.int _)⟩
  · exact p.elim
theorem ip_subI : IpD X Γ E .Sub subD := by
  intro pins s σ H x y v u Q I rx ry ⟨φ, S, dx, dy, sm, r1, r2, p⟩
  unfold subD at p
  split at p
  · cases r1; cases r2
    exact ip_sub pins s σ H _ _ v u Q I rx ry ⟨_, _, rfl, rfl, p.val sm (.int _)⟩
  · exact p.elim
end

open PySem PySem.Spec PyProof.Rows L2

/-! ### a list or a tuple is walked -/
def itAny (m : Env → M D) : Env → M ItD := fun r => do
  let d ← m r
  match d with
  | .tup xs => pure (.tup xs)
  | .fl xs => pure (.fl xs)
  | .str x => pure (.str x)
  | .ref n => fun S => match S[n]? with
    | some (.lst _) => .ok (.lst n) S
    | _ => .no
  | _ => stuck
section
variable {X : Cx} {Γ : Nat → Addr} {E : XK} {ma : Env → M D}
theorem iter_list {tg : Expr} {pins : List (Addr × Obj)} {σ : Sl} {H : Hp} {s : Shared} {a : Addr} {xs : List V} {R : It → Hp → Prop} (I : Inv X pins σ H s) (h : SqL X.K H a xs) (q : R (Itl X.K a) H) : wpAny (model X.prog X.w) X.A (pyIter (.ref a)) (PIE X pins σ tg R) X.xe s := by
  obtain ⟨its, rv, pl, hz⟩ := I.list h
  refine wpAny_pyIter_list pl.isList ⟨s.heap.objs.size, [s.heap.objs.size], _, _, H, rfl, I.kept (t' := s.toks) (fun b o z => Heap.get?_push_of_some _ z), turn_list a _, ⟨_, Heap.get?_push_size _ rfl, rfl, rfl⟩, fun b hb => ?_, q⟩
  rw [show b = s.heap.objs.size by simpa using hb]
  exact I.fpOk (Nat.le_refl _) (I.hok.fresh (Nat.le_refl _))
theorem iter_tup {tg : Expr} {pins : List (Addr × Obj)} {σ : Sl} {H : Hp} {s : Shared} {a : Addr} {xs : List V} {R : It → Hp → Prop} (I : Inv X pins σ H s) (h : SqT X.K H a xs) (q : R (Itt X.K a) H) : wpAny (model X.prog X.w) X.A (pyIter (.ref a)) (PIE X pins σ tg R) X.xe s := by
  obtain ⟨its, rv, pl, hz⟩ := I.tuple h
  refine wpAny_pyIter_tuple (show s.heap.IsTuple a its.toArray from pl) ⟨s.heap.objs.size, [s.heap.objs.size], _, _, H, rfl, I.kept (t' := s.toks) (fun b o z => Heap.get?_push_of_some _ z), turn_tuple a _, ⟨_, Heap.get?_push_size _ rfl, rfl, rfl⟩, fun b hb => ?_, q⟩
  rw [show b = s.heap.objs.size by simpa using hb]
  exact I.fpOk (Nat.le_refl _) (I.hok.fresh (Nat.le_refl _))
theorem ri_any {tg l : Expr} (h : RE X Γ E l ma) : RI X Γ E tg l (itAny ma) := by
  refine ⟨fun pins s σ H R I ⟨φ, r, S, sm, q, p⟩ => ?_⟩
  have hw : tE X.K Γ E ma σ H fun v H1 => (∃ a xs, v = .ref a ∧ SqL X.K H1 a xs ∧ R (Itl X.K a) H1) ∨ (∃ a xs, v = .ref a ∧ SqT X.K H1 a xs ∧ R (Itt X.K a) H1) ∨ ∃ x, v = .str x ∧ R (Its x) H1 := by
    refine tE_bnd sm q p fun φ1 S1 d v H1 e1 s1 q1 rv p1 => ?_
    cases d with
    | ref n =>
      cases rv with
      | ref hq =>
        simp only [] at p1
        cases hS : S1[n]? with
        | none => simp only [hS] at p1; exact p1.elim
        | some o =>
          cases o with
          | lst xs =>
            simp only [hS] at p1
            obtain ⟨vs, h1, _⟩ := sim_list s1 hq hS
            exact .inl ⟨_, _, rfl, SqL.of h1, p1.here s1 (.lst hq)⟩
          | dK _ => simp only [hS] at p1; exact p1.elim
          | dT _ => simp only [hS] at p1; exact p1.elim
          | ins _ _ => simp only [hS] at p1; exact p1.elim
          | exo _ _ => simp only [hS] at p1; exact p1.elim
          | exd _ => simp only [hS] at p1; exact p1.elim
    | fl xs =>
      cases rv with
      | fl hF hr => exact .inl ⟨_, _, rfl, hF.sq, p1.val s1 (.fl hF hr)⟩
    | tup xs =>
      cases rv with
      | tup hT hr => exact .inr (.inl ⟨_, _, rfl, hT, p1.val s1 (.tup hT hr)⟩)
    | str z =>
      cases rv
      exact .inr (.inr ⟨_, rfl, p1.val s1 (.str z)⟩)
    | _ => exact p1.elim
  refine thn (h.run pins s σ H _ I hw) fun v s1 ⟨x, H1, I1, r1, z⟩ => ?_
  rcases z with ⟨a, xs, rfl, hl, hR⟩ | ⟨a, xs, rfl, hl, hR⟩ | ⟨y, rfl, hR⟩
  · cases r1
    exact iter_list I1 hl hR
  · cases r1
    exact iter_tup I1 hl hR
  · obtain ⟨t, rfl⟩ := r1
    cases ha : y.cps.all (· < 128)
    · exact wpAny_pyIter_wide ha (pi_one (tk := s1.toks) I1 _ (turn_str _ y t "str_iterator" (.inr rfl)) ⟨_, Heap.get?_push_size _ rfl, rfl, rfl⟩ hR)
    · exact wpAny_pyIter_ascii ha (pi_one (tk := s1.toks) I1 _ (turn_str _ y t "str_ascii_iterator" (.inl rfl)) ⟨_, Heap.get?_push_size _ rfl, rfl, rfl⟩ hR)
end

/-! ### defs of the text, by their names -/
structure DefOk (K : PySem.W.Frag) (mg : Str → Option Value) (nm qual : Str) (st : Stmt) (ps : List Str) : Prop where
  ex : ∃ (f : Addr) (fd : FuncData), Fun K nm qual st f fd ∧ mg nm = some (.ref f) ∧ Binds K fd ps []
theorem def_mk {K : PySem.W.Frag} {mg : Str → Option Value} {h : Heap} {nm : Str} {st : Stmt} {ps : List Str} {f : Addr} {od an : Option Addr} {sl : Array (Option Value)} {oc kV dc pm cd ct : Value} (X : K.In h) (G : h.Ns mainGlobals mg)
    (a : PySem.W.nsIn K mainGlobals nm = some (some (.ref f))) (l : K.lookup f = some ⟨oc, od, .func (PySem.W.fnOf nm nm (defArgs st) (defBody st) (defScope st) .none kV dc pm an cd ct), sl⟩) (c : PySem.W.codeIn K cd nm = true) (k : PySem.W.keepIn K (.ref f) = true)
    (hb : ∀ (kV doc pm : Value) (an : Option Addr) (cdv ct : Value) (us : List Value), us.length = ps.length → bindArgs (PySem.W.fnOf nm nm (defArgs st) (defBody st) (defScope st) .none kV doc pm an cdv ct) ⟨us, []⟩ = pure (ps.zip us)) : DefOk K mg nm nm st ps :=
  have F := fun_mk (st := st) l c k
  ⟨⟨f, _, F, PySem.W.mg_of X G a, F.binds hb⟩⟩
structure Callee (P : Program) (w : World) (K : PySem.W.Frag) (mg : Str → Option Value) (base : Heap) (Γ : Nat → Addr) (k : Nat) (nm : Str) (n : Nat) (mf : List D → M D) : Prop where
  ex : ∃ (f : Addr) (fd : FuncData) (ps : List Str), FnG P w K mg base CX0 k f fd ps (spM K Γ n mf) ∧ mg nm = some (.ref f) ∧ PySem.W.keepIn K (.ref f) = true ∧ Binds K fd ps []
section
variable {P : Program} {w : World} {K : PySem.W.Frag} {mg : Str → Option Value} {base : Heap} {Γ : Nat → Addr} {k : Nat} {nm qual : Str} {st : Stmt} {N ps : List Str}
theorem callee_mk {m : Env → M Fl} (D : DefOk K mg nm qual st ps) (sc : FnScope N ps (defScope st))
    (hbody : ∀ (f : Addr) (cdv : Value) (A : Around) (fr : List PySem.Env) (s : Shared) (H : Hp) (E : XK), Quiet (A.deeper (envOfC qual (defScope st) s.heap.objs.size f cdv)) → Room k (A.deeper (envOfC qual (defScope st) s.heap.objs.size f cdv)) → RSs (cxOf CX0 P w K mg base N qual (defScope st) f cdv A fr s H E).nox Γ E (defBody st) m) :
    Callee P w K mg base Γ (k + 1) nm ps.length (fnM N.length m) := by
  obtain ⟨f, fd, F, g, b⟩ := D.ex
  exact ⟨⟨f, fd, ps, fn_okG F sc fun cdv A fr s H E hq hr => hbody f cdv A fr s H E hq hr, g, F.kp, b⟩⟩
theorem callee_zero {k : Nat} (D : DefOk K mg nm qual st ps) : Callee P w K mg base Γ k nm ps.length (fun _ => stuck) := by
  obtain ⟨f, fd, F, g, b⟩ := D.ex
  exact ⟨⟨f, fd, ps, ⟨fun vs H Q E h => h.1, fun A fr s H args us vs Q E _ _ _ _ _ h => by
    obtain ⟨_, φ, S, ds, _, _, p⟩ := h
    exact p.elim⟩, g, F.kp, b⟩⟩
theorem Callee.up {j k n : Nat} {mf : List D → M D} (C : Callee P w K mg base Γ j nm n mf) (h : j ≤ k) : Callee P w K mg base Γ k nm n mf := by
  obtain ⟨f, fd, ps, F, g, kp, b⟩ := C.ex
  exact ⟨⟨f, fd, ps, F.up h, g, kp, b⟩⟩
end
section
variable {X : Cx} {Γ : Nat → Addr} {E : XK} {e : Expr} {es : List Expr} {mA : Env → M (List D)} {pos p : Pos} {k n : Nat} {x : Str} {mf : List D → M D}
theorem re_callC (C : Callee X.prog X.w X.K X.mg X.base Γ k x n mf) (hq : Quiet X.A) (hr : Room k X.A) (ha : RA X Γ E (e :: es) mA) (hl : ∀ r S ds S', mA r S = .ok ds S' → ds.length = n) (hg : Gl X x := by rfl) (hdb : (x == ("__debug__" : Str)) = false := by decide)
    (he : starEach (e :: es) X.env = (false, eval e X.env) :: starEach es X.env := by rfl) (hpl : (backTo pos (starEach es X.env)).any (·.1) = false := by rfl) : RE X Γ E (.Call (.Name x p) (e :: es) [] pos) (clM mf mA) := by
  obtain ⟨f, fd, ps, F, g, kp, b⟩ := C.ex
  exact re_callG F hq hr hg g kp b pass0 ha hl hdb he hpl
theorem re_callC0 (C : Callee X.prog X.w X.K X.mg X.base Γ k x 0 mf) (hq : Quiet X.A) (hr : Room k X.A) (hg : Gl X x := by rfl) (hdb : (x == ("__debug__" : Str)) = false := by decide) : RE X Γ E (.Call (.Name x p) [] [] pos) (clM mf nilA) := by
  obtain ⟨f, fd, ps, F, g, kp, b⟩ := C.ex
  exact re_callG0 F hq hr hg g kp b pass0 hdb
end
theorem room_eq {k : Nat} {A : Around} (hr : Room k A) : A.units + 64 < cLine := hr.units
theorem room_in {k : Nat} {A : Around} (hr : Room k A) : A.units + 65 < cLine := by have := hr.un; omega
theorem room_re {k : Nat} {A : Around} (hr : Room k A) : A.units + 100 < cLine := by have := hr.un; omega
theorem room_1 {k : Nat} {A : Around} (hr : Room k A) : A.units + 1 < cLine := by have := hr.un; omega
theorem bt_len : bootBuiltins "len" = some (.builtin "len") := by decide +kernel
theorem bt_abs : bootBuiltins "abs" = some (.builtin "abs") := by decide +kernel
theorem bt_sum : bootBuiltins "sum" = some (.builtin "sum") := by decide +kernel
theorem bt_all : bootBuiltins "all" = some (.builtin "all") := by decide +kernel
theorem bt_any : bootBuiltins "any" = some (.builtin "any") := by decide +kernel
theorem bt_repr : bootBuiltins "repr" = some (.builtin "repr") := by decide +kernel
theorem bt_sorted : bootBuiltins "sorted" = some (.builtin "sorted") := by decide +kernel
theorem bt_tuple : bootBuiltins "tuple" = some (.type "tuple") := by decide +kernel
theorem bt_list : bootBuiltins "list" = some (.type "list") := by decide +kernel
theorem bt_int : bootBuiltins "int" = some (.type "int") := by decide +kernel
theorem bt_dict : bootBuiltins "dict" = some (.type "dict") := by decide +kernel
theorem bt_set : bootBuiltins "set" = some (.type "set") := by decide +kernel
/-- constants of the module -/
def ConstIs (K : PySem.W.Frag) (mg : Str → Option Value) (nm : Str) (d : D) : Prop := ∃ (v : V) (u : Value), mg nm = some u ∧ RelV v u ∧ ∀ H φ, RelD K H φ d v
theorem const_v {K : PySem.W.Frag} {mg : Str → Option Value} {h : Heap} {nm : Str} {u : Value} {v : V} {d : D} (X : K.In h) (G : h.Ns mainGlobals mg) (a : PySem.W.nsIn K mainGlobals nm = some (some u)) (r : RelV v u) (q : ∀ H φ, RelD K H φ d v) : ConstIs K mg nm d :=
  ⟨v, u, PySem.W.mg_of X G a, r, q⟩
theorem const_t {K : PySem.W.Frag} {mg : Str → Option Value} {h : Heap} {nm : Str} {a : Addr} {dd : Option Addr} {its : Array Value} {n : Nat} {sl : Array (Option Value)} {ds : List D} {vs : List V} (X : K.In h) (G : h.Ns mainGlobals mg) (e : PySem.W.nsIn K mainGlobals nm = some (some (.ref a)))
    (l : K.lookup a = some ⟨.type "tuple", dd, .seq its n, sl⟩) (z : its.size ≤ sizeLine) (r : Vals vs its.toList) (q : ∀ H φ, RelDs K H φ ds vs) : ConstIs K mg nm (.tup ds) :=
  ⟨.ref a, .ref a, PySem.W.mg_of X G e, rfl, fun H φ => .tup (.inr ⟨_, its, n, l, rfl, rfl, z, r⟩) (q H φ)⟩

open PySem PySem.Spec PyProof.Rows L2

/-! ### methods -/
def tyD (T : String) (S : Sto) : D → Bool
  | .str _ => T == "str"
  | .ref n => match S[n]? with
    | some (.lst _) => T == "list"
    | some (.dK _) => T == "dict"
    | some (.dT _) => T == "dict"
    | _ => false
  | _ => false
theorem tyD_rel {K : PySem.W.Frag} {Γ : Nat → Addr} {φ : List Addr} {S : Sto} {H : Hp} {T : String} {d : D} {v : V} (s : Sim K Γ φ S H) (h : tyD T S d = true) (r : RelD K H φ d v) : tyV K T v H := by
  cases d with
  | str x =>
    cases r
    exact eq_of_beq h
  | ref n =>
    cases r with
    | ref hq =>
      unfold tyD at h
      cases hS : S[n]? with
      | none => simp only [hS] at h; cases h
      | some o =>
        simp only [hS] at h
        cases o with
        | lst xs =>
          obtain ⟨vs, h1, _⟩ := s.obj n _ _ hS hq
          exact .inl ⟨eq_of_beq h, _, SqL.of h1⟩
        | dK xs =>
          obtain ⟨vs, h1, _⟩ := s.obj n _ _ hS hq
          exact .inr (.inr (.inl ⟨eq_of_beq h, .inl ⟨_, h1⟩⟩))
        | dT xs =>
          obtain ⟨vs, h1, _⟩ := s.obj n _ _ hS hq
          exact .inr (.inr (.inl ⟨eq_of_beq h, .inr ⟨_, h1⟩⟩))
        | ins _ _ => cases h
        | exo _ _ => cases h
        | exd _ => cases h
  | _ => cases h
def needM (f : Sto → Bool) : M Unit := fun S => if f S = true then .ok () S else .no
def mtM (T : String) (op : D → List D → M D) (mo : Env → M D) (ma : Env → M (List D)) : Env → M D := fun r => do
  let d ← mo r
  needM (fun S => tyD T S d)
  let ds ← ma r
  op d ds
section
variable {X : Cx} {Γ : Nat → Addr} {E : XK} {o e : Expr} {es : List Expr} {mo : Env → M D} {ma : Env → M (List D)} {name : Str} {apos cpos : Pos} {T id : String} {op : D → List D → M D}
theorem re_mt (hm : MtD X Γ E id op) (pa : PlainAttrs T) (slot : Slot T name id) (hty : typeOf (.builtin id) = pure (.type "method_descriptor")) (ho : RE X Γ E o mo) (ha : RA X Γ E (e :: es) ma)
    (hbase : attributeBase o name X.env (eval o X.env) = eval o X.env := by rfl)
    (hfew : ((backTo cpos (starEach (e :: es) X.env)).all (fun x => !x.1) && (backToKw cpos (keywordEach [] X.env)).all (fun x => x.1.isSome)
      && decide ((e :: es).length + ([] : List Keyword).length + (if ([] : List Keyword).isEmpty then 0 else 1) < 30)) = true := by rfl)
    (hline : (apos.endLine == cpos.line) = true := by rfl) (hs : starEach (e :: es) X.env = (false, eval e X.env) :: starEach es X.env := by rfl) (hplain : (backTo cpos (starEach es X.env)).any (·.1) = false := by rfl) :
    RE X Γ E (.Call (.Attribute o name apos) (e :: es) [] cpos) (mtM T op mo ma) := by
  refine PE.weaken (pe_bm pa slot hty hm ho ha hbase hfew hline hs hplain) fun σ H Q ⟨φ, r, S, s, q, p⟩ => ?_
  refine tE_bnd s q p fun φ1 S1 d v H1 e1 s1 q1 rv p1 => ?_
  rw [bind_def] at p1
  unfold needM at p1
  cases hT : tyD T S1 d with
  | false => simp only [hT] at p1; exact p1.elim
  | true =>
    simp only [hT] at p1
    refine ⟨tyD_rel s1 hT rv, ?_⟩
    refine tA_bnd s1 q1 p1 fun φ2 S2 ds vs H2 e2 s2 q2 rvs p2 => ?_
    exact ⟨φ2, S2, d, ds, s2, RelD.mono e2 _ _ rv, rvs, p2⟩
end
/-- xs.append(d) -/
def appendD (o : D) (ds : List D) : M D := fun S => match o, ds with
  | .ref n, [d] => match S[n]? with
    | some (.lst xs) => if xs.length < sizeLine then .ok .non (S.set n (.lst (xs ++ [d]))) else .no
    | _ => .no
  | _, _ => .no
/-- xs.insert(i, d) -/
def insertD (o : D) (ds : List D) : M D := fun S => match o, ds with
  | .ref n, [.int i, d] => match S[n]? with
    | some (.lst xs) => if xs.length < sizeLine ∧ 0 ≤ i ∧ i < 2 ^ 63 then .ok .non (S.set n (.lst (xs.take i.toNat ++ [d] ++ xs.drop i.toNat))) else .no
    | _ => .no
  | _, _ => .no
/-- a.split(b) -/
def splitD (o : D) (ds : List D) : M D := match o, ds with
  | .str a, [.str b] => if (b.length == 0) = false ∧ a.length + 2 ≤ sizeLine then newO (.lst ((Txt.split a b).map D.str)) else stuck
  | _, _ => stuck
section
variable {X : Cx} {Γ : Nat → Addr} {E : XK}
theorem relDs_one {K : PySem.W.Frag} {H : Hp} {φ : List Addr} {d : D} {vs : List V} (h : RelDs K H φ [d] vs) : ∃ v, vs = [v] ∧ RelD K H φ d v := by
  cases h with
  | cons a b => cases b; exact ⟨_, rfl, a⟩
theorem relDs_two {K : PySem.W.Frag} {H : Hp} {φ : List Addr} {d e : D} {vs : List V} (h : RelDs K H φ [d, e] vs) : ∃ v w, vs = [v, w] ∧ RelD K H φ d v ∧ RelD K H φ e w := by
  cases h with
  | cons a b =>
    obtain ⟨w, rfl, c⟩ := relDs_one b
    exact ⟨_, w, rfl, a, c⟩
theorem md_append : MtD X Γ E "list.append" appendD := by
  intro pins s σ H x vs v us Q I rx rv ⟨φ, S, d, ds, sm, r1, r2, p⟩
  unfold appendD at p
  split at p
  · rename_i n d
    cases r1 with
    | @ref _ a hq =>
      obtain ⟨w, rfl, r3⟩ := relDs_one r2
      split at p
      · rename_i xs hS
        obtain ⟨ws, h1, h2⟩ := sm.obj n _ _ hS hq
        by_cases hz : xs.length < sizeLine
        · rw [if_pos hz] at p
          have mu : Mut (H a) := by rw [h1]; trivial
          have e := Ext.mut (K := X.K) (φ := φ) (o := .lst (ws ++ [w])) mu hq
          refine mt_append pins s σ H _ _ v us Q I rx rv ⟨_, ws, _, rfl, rfl, h1, by rw [← RelDs.length h2]; exact hz, ?_⟩
          exact Post.put (o := .lst (xs ++ [d])) (ho := .lst (ws ++ [w])) sm hS hq mu ⟨_, upd_same, RelDs.app (RelDs.mono e _ _ h2) (.cons (RelD.mono e _ _ r3) .nil)⟩ .non p
        · rw [if_neg hz] at p; exact p.elim
      · exact p.elim
  · exact p.elim
theorem md_insert : MtD X Γ E "list.insert" insertD := by
  intro pins s σ H x vs v us Q I rx rv ⟨φ, S, d, ds, sm, r1, r2, p⟩
  unfold insertD at p
  split at p
  · rename_i n i d
    cases r1 with
    | @ref _ a hq =>
      obtain ⟨w0, w, rfl, r3, r5⟩ := relDs_two r2
      cases r3
      split at p
      · rename_i xs hS
        obtain ⟨ws, h1, h2⟩ := sm.obj n _ _ hS hq
        by_cases hz : xs.length < sizeLine ∧ 0 ≤ i ∧ i < 2 ^ 63
        · rw [if_pos hz] at p
          have mu : Mut (H a) := by rw [h1]; trivial
          refine mt_insert pins s σ H _ _ v us Q I rx rv ⟨_, ws, i, _, rfl, rfl, h1, by rw [← RelDs.length h2]; exact hz.1, hz.2.1, hz.2.2, ?_⟩
          have e := Ext.mut (K := X.K) (φ := φ) (o := .lst (ws.take i.toNat ++ [w] ++ ws.drop i.toNat)) mu hq
          exact Post.put (o := .lst (xs.take i.toNat ++ [d] ++ xs.drop i.toNat)) (ho := .lst (ws.take i.toNat ++ [w] ++ ws.drop i.toNat)) sm hS hq mu ⟨_, upd_same, RelDs.app (RelDs.app (RelDs.take _ (RelDs.mono e _ _ h2)) (.cons (RelD.mono e _ _ r5) .nil)) (RelDs.drop _ (RelDs.mono e _ _ h2))⟩ .non p
        · rw [if_neg hz] at p; exact p.elim
      · exact p.elim
  · exact p.elim
theorem relDs_str {K : PySem.W.Frag} {H : Hp} {φ : List Addr} : ∀ ys : List Str, RelDs K H φ (ys.map D.str) (ys.map V.str)
  | [] => .nil
  | y :: ys => .cons (.str y) (relDs_str ys)
theorem md_split : MtD X Γ E "str.split" splitD := by
  intro pins s σ H x vs v us Q I rx rv ⟨φ, S, d, ds, sm, r1, r2, p⟩
  unfold splitD at p
  split at p
  · cases r1
    cases r2 with
    | cons r3 r4 =>
      cases r3
      cases r4
      obtain ⟨hz, p⟩ := Post.ite p
      exact mt_split pins s σ H _ _ v us Q I rx rv ⟨_, _, rfl, rfl, hz.1, hz.2, Post.newL sm (relDs_str _) p⟩
  · exact p.elim
def itemsD (S : Sto) : D → Option (List D)
  | .tup xs => some xs
  | d => seqL S d
theorem itemsD_rel {K : PySem.W.Frag} {Γ : Nat → Addr} {φ : List Addr} {S : Sto} {H : Hp} (sm : Sim K Γ φ S H) {d : D} {v : V} {xs : List D} (h : itemsD S d = some xs) (r : RelD K H φ d v) : ∃ a vs, v = .ref a ∧ (SqL K H a vs ∨ SqT K H a vs) ∧ RelDs K H φ xs vs := by
  unfold itemsD at h
  split at h
  · cases h
    cases r with
    | tup hT hr => exact ⟨_, _, rfl, .inr hT, hr⟩
  · obtain ⟨b, vs, e, h1, h2⟩ := seqL_rel sm h r
    exact ⟨b, vs, e, .inl h1, h2⟩
/-- a.join(xs) -/
def joinD (o : D) (ds : List D) : M D := fun S => match o, ds with
  | .str a, [d] => match itemsD S d with
    | some xs => match allOf unStr xs with
      | some ys => if (ys.map (·.length)).sum + ys.length * a.length ≤ 16777216 then .ok (.str (Txt.join a ys)) S else .no
      | none => .no
    | none => .no
  | _, _ => .no
theorem md_join : MtD X Γ E "str.join" joinD := by
  intro pins s σ H x vs v us Q I rx rv ⟨φ, S, d, ds, sm, r1, r2, p⟩
  unfold joinD at p
  split at p
  · rename_i a d
    cases r1
    obtain ⟨w, rfl, r3⟩ := relDs_one r2
    split at p
    · rename_i xs hd
      split at p
      · rename_i ys ha
        by_cases hz : (ys.map (·.length)).sum + ys.length * a.length ≤ 16777216
        · rw [if_pos hz] at p
          obtain ⟨b, vs', rfl, h1, h2⟩ := itemsD_rel sm hd r3
          have e := allOf_rel (g := V.str) unStr_rel ha h2
          subst e
          exact mt_join pins s σ H _ _ v us Q I rx rv ⟨_, _, ys, rfl, rfl, h1, hz, p.here sm (.str _)⟩
        · rw [if_neg hz] at p; exact p.elim
      · exact p.elim
    · exact p.elim
  · exact p.elim
end

/-! ### xs[::step], step 1 or -1 -/
def stepD (d st : D) : M D := fun S => match seqL S d, st with
  | some xs, .int i => if i = 1 then newO (.lst xs) S else if i = -1 then newO (.lst xs.reverse) S else .no
  | _, _ => .no
def stM (m ms : Env → M D) : Env → M D := fun r => do
  let d ← m r
  let i ← ms r
  stepD d i
theorem pick_one (its : Array Value) : slicePick its none none (some 1) = its := by
  have e := slicePick_all its
  unfold slicePick at e ⊢
  exact e
section
variable {X : Cx} {Γ : Nat → Addr} {E : XK} {e st : Expr} {m ms : Env → M D} {p3 pos : Pos}
theorem re_step (he : RE X Γ E e m) (hst : RE X Γ E st ms) : RE X Γ E (.Subscript e (.Slice none none (some st) p3) pos) (stM m ms) := by
  refine ⟨fun pins s σ H Q I ⟨φ, r, S, sm, q, p⟩ => ?_⟩
  have w : tE X.K Γ E m σ H fun v H1 => tE X.K Γ E ms σ H1 fun u H2 => ∃ i, u = V.int i ∧ ∃ a xs, v = .ref a ∧ SqL X.K H2 a xs ∧ ((i = 1 ∧ ∀ b, H2 b = none → Q (.ref b) (upd H2 b (.lst xs))) ∨ (i = -1 ∧ ∀ b, H2 b = none → Q (.ref b) (upd H2 b (.lst xs.reverse)))) := by
    refine tE_bnd sm q p fun φ1 S1 d v H1 e1 s1 q1 rv p1 => ?_
    refine tE_bnd s1 q1 p1 fun φ2 S2 i u H2 e2 s2 q2 ru p2 => ?_
    unfold stepD at p2
    split at p2
    · rename_i xs k hx
      cases ru
      obtain ⟨a, vs, rfl, h1, h2⟩ := seqL_rel s2 hx (RelD.mono e2 _ _ rv)
      refine ⟨_, rfl, a, vs, rfl, h1, ?_⟩
      by_cases h3 : k = 1
      · rw [if_pos h3] at p2
        exact .inl ⟨h3, Post.newL s2 h2 p2⟩
      · rw [if_neg h3] at p2
        by_cases h4 : k = -1
        · rw [if_pos h4] at p2
          exact .inr ⟨h4, Post.newL s2 (RelDs.rev h2) p2⟩
        · rw [if_neg h4] at p2; exact p2.elim
    · exact p2.elim
  refine Subscript_ (thn (he.run pins s σ H _ I w) fun v s1 ⟨x, H1, I1, r1, w1⟩ => ?_)
  refine wpAny_Slice (thn (po_none.run pins s1 σ H1 (fun o G => o = none ∧ G = H1) I1 ⟨rfl, rfl⟩) fun vl s2 ⟨lo, G2, I2, pl, elo, e2⟩ => ?_)
  subst elo e2
  refine thn (po_none.run pins s2 σ G2 (fun o G => o = none ∧ G = G2) I2 ⟨rfl, rfl⟩) fun vu s3 ⟨hi, G3, I3, pu, ehi, e3⟩ => ?_
  subst ehi e3
  refine thn ((po_some hst).run pins s3 σ G3 (fun o G => ∃ i, o = some i ∧ ∃ a xs, x = .ref a ∧ SqL X.K G a xs ∧ ((i = 1 ∧ ∀ b, G b = none → Q (.ref b) (upd G b (.lst xs))) ∨ (i = -1 ∧ ∀ b, G b = none → Q (.ref b) (upd G b (.lst xs.reverse))))) I3 ?_) fun vs s4 ⟨o, H4, I4, ps, i, eo, a, xs, ex, hx, hq⟩ => ?_
  · obtain ⟨φ1, r1', S1, z1, z2, z3⟩ := w1
    exact ⟨φ1, r1', S1, z1, z2, z3.imp fun u G ⟨i, e, z⟩ => ⟨i, e, i, rfl, z⟩⟩
  · subst eo ex
    cases r1
    have I5 := I4.kept (t' := s4.toks) (h' := s4.heap.push { cls := .type "slice", data := .fields #[vl, vu, vs] }) fun b ob z => Heap.get?_push_of_some _ z
    obtain ⟨its, rr, ht, hz⟩ := I5.list hx
    have hlen := rr.length
    have fr := I5.hok.fresh (Nat.le_refl _)
    have hsz : its.toArray.size ≤ sizeLine := by rw [List.size_toArray]; omega
    have h0 : some i ≠ some (0 : Int) := fun z => by
      cases z
      rcases hq with ⟨z, _⟩ | ⟨z, _⟩ <;> exact absurd z (by decide)
    have done : ∀ ys jts, Vals ys jts → ys.length ≤ sizeLine → slicePick its.toArray none none (some i) = jts.toArray → (∀ b, H4 b = none → Q (.ref b) (upd H4 b (.lst ys))) → wpAny (model X.prog X.w) X.A (getItem (.ref a) (.ref s4.heap.objs.size)) (EP X pins σ Q) X.xe { s4 with heap := s4.heap.push { cls := .type "slice", data := .fields #[vl, vu, vs] } } := fun ys jts hv hl hp hQ => by
      refine wpAny_getItem_list_slice ht.isList (Heap.IsSliceOf.new _ vl vu vs) pl pu ps h0 ?_ hsz
      rw [hp]
      exact ⟨.ref _, _, I5.laid (t' := s4.toks) (o := .lst ys) (fun b ob z => Heap.get?_push_of_some _ z) (Nat.le_refl _) ⟨hl, jts, 0, hv, Heap.get?_push_size _ rfl⟩, rfl, hQ _ fr⟩
    have go : wpAny (model X.prog X.w) X.A (getItem (.ref a) (.ref s4.heap.objs.size)) (EP X pins σ Q) X.xe { s4 with heap := s4.heap.push { cls := .type "slice", data := .fields #[vl, vu, vs] } } := by
      rcases hq with ⟨rfl, hQ⟩ | ⟨rfl, hQ⟩
      · exact done xs its rr hz (pick_one _) hQ
      · exact done xs.reverse its.reverse rr.reverse (by rw [List.length_reverse]; exact hz) (PySem.W.krv_pick _) hQ
    exact tail_any (ops := [.ref a, .ref s4.heap.objs.size]) ht.isList.typeIs (PySem.slot_list_getitem.lookup) go (by with_unfolding_all rfl)
end

/-! ### dicts -/
def putKD {κ : Type} [DecidableEq κ] (kvs : List (κ × D)) (k : κ) (v : D) : List (κ × D) :=
  if (valD kvs k).isSome = true then kvs.map (fun kv => if kv.1 = k then (kv.1, v) else kv) else kvs ++ [(k, v)]
def mergeKD (kvs more : List (Key × D)) : List (Key × D) := more.foldl (fun acc kv => putKD acc kv.1 kv.2) kvs
def unKey : D → Option Key
  | .int i => some (.inl i)
  | .str x => some (.inr x)
  | _ => none
def unPair : D → Option (Key × D)
  | .tup [k, v] => (unKey k).map fun a => (a, v)
  | _ => none
section
variable {K : PySem.W.Frag} {H : Hp} {φ : List Addr}
theorem relKv_app {κ : Type} {xs ys : List (κ × D)} {us vs : List (κ × V)} (a : RelKv K H φ xs us) (b : RelKv K H φ ys vs) : RelKv K H φ (xs ++ ys) (us ++ vs) := by
  unfold RelKv at a b ⊢
  induction a with
  | nil => exact b
  | cons r t ih => exact .cons r ih
theorem relKv_put {κ : Type} [DecidableEq κ] {ks : List (κ × D)} {vs : List (κ × V)} (r : RelKv K H φ ks vs) (k : κ) {d : D} {v : V} (rv : RelD K H φ d v) : RelKv K H φ (putKD ks k d) (putK vs k v) := by
  have e : (valD ks k).isSome = (vs.any fun kv => decide (kv.1 = k)) := by
    rw [valV_any]
    obtain ⟨h1, h2⟩ := valD_rel r k
    cases hd : valD ks k with
    | none => rw [h2 hd]; rfl
    | some d =>
      obtain ⟨w, hw, _⟩ := h1 d hd
      rw [hw]; rfl
  unfold putKD putK
  rw [← e]
  by_cases hz : (valD ks k).isSome = true
  · rw [if_pos hz, if_pos hz]
    clear e hz
    unfold RelKv at r ⊢
    induction r with
    | nil => exact .nil
    | @cons p q ps qs a t ih =>
      refine .cons ?_ ih
      show (if p.1 = k then (p.1, d) else p).1 = (if q.1 = k then (q.1, v) else q).1 ∧ RelD K H φ (if p.1 = k then (p.1, d) else p).2 (if q.1 = k then (q.1, v) else q).2
      by_cases hp : p.1 = k
      · rw [if_pos hp, if_pos (a.1 ▸ hp)]
        exact ⟨a.1, rv⟩
      · rw [if_neg hp, if_neg (a.1 ▸ hp)]
        exact a
  · rw [if_neg hz, if_neg hz]
    exact relKv_app r (.cons ⟨rfl, rv⟩ .nil)
theorem relKv_merge : ∀ {ms : List (Key × D)} {ns : List (Key × V)} {ks : List (Key × D)} {vs : List (Key × V)}, RelKv K H φ ms ns → RelKv K H φ ks vs → RelKv K H φ (mergeKD ks ms) (mergeK vs ns)
  | _, _, _, _, .nil, r => r
  | _, _, _, _, .cons (l₁ := ps) (l₂ := qs) (a := p) (b := q) a t, r => by
    show RelKv K H φ (mergeKD (putKD _ p.1 p.2) ps) (mergeK (putK _ q.1 q.2) qs)
    refine relKv_merge t ?_
    rw [← a.1]
    exact relKv_put r p.1 a.2
theorem unKey_rel {d : D} {k : Key} {v : V} (h : unKey d = some k) (r : RelD K H φ d v) : v = kV k := by
  cases d <;> simp [unKey] at h
  · subst h; cases r; rfl
  · subst h; cases r; rfl
theorem pairs_rel : ∀ {xs : List D} {vs : List V} {kvs : List (Key × D)}, allOf unPair xs = some kvs → RelDs K H φ xs vs → ∃ (ps : List Addr) (ws : List (Key × V)), vs = ps.map V.ref ∧ Paired (fun p kv => SqT K H p [kV kv.1, kv.2]) ps ws ∧ RelKv K H φ kvs ws
  | [], _, _, e, r => by
    cases r
    unfold allOf at e
    cases e
    exact ⟨[], [], rfl, .nil, .nil⟩
  | d :: xs, _, _, e, r => by
    cases r with
    | cons r1 r2 =>
      unfold allOf at e
      split at e
      · rename_i a q h1 h2
        cases e
        obtain ⟨ps, ws, rfl, h3, h4⟩ := pairs_rel h2 r2
        unfold unPair at h1
        split at h1
        · rename_i k v
          obtain ⟨kk, hk, rfl⟩ := Option.map_eq_some_iff.mp h1
          cases r1 with
          | tup hT hr =>
            obtain ⟨u, w, rfl, ru, rw'⟩ := relDs_two hr
            have := unKey_rel hk ru
            subst this
            exact ⟨_ :: ps, (kk, w) :: ws, rfl, .cons hT h3, .cons ⟨rfl, rw'⟩ h4⟩
        · cases h1
      · cases e
end
def dnewM : Env → M D := fun _ => newO (.dK [])
def dictD (ds : List D) : M D := fun S => match ds with
  | [.ref n] => match S[n]? with
    | some (.dK kvs) => newO (.dK kvs) S
    | some (.lst xs) => match allOf unPair xs with
      | some kvs => newO (.dK (mergeKD [] kvs)) S
      | none => .no
    | _ => .no
  | _ => .no
def dgetD (d k x : D) : M D := fun S => match d, unKey k with
  | .ref n, some k => match S[n]? with
    | some (.dK kvs) => .ok ((valD kvs k).getD x) S
    | _ => .no
  | _, _ => .no
def dget2M (md mk mx : Env → M D) : Env → M D := fun r => do
  let d ← md r
  needM (fun S => tyD "dict" S d)
  let k ← mk r
  let x ← mx r
  dgetD d k x
theorem Post.newK {K : PySem.W.Frag} {Γ : Nat → Addr} {E : XK} {φ : List Addr} {S : Sto} {H : Hp} {ks : List (Key × D)} {vs : List (Key × V)} {Q : VK} (s : Sim K Γ φ S H) (r : RelKv K H φ ks vs) (p : Post K Γ E (rD K) φ H (newO (.dK ks) S) Q) : ∀ q, H q = none → Q (.ref q) (upd H q (.dK vs)) := fun q hq =>
  p (φ ++ [q]) _ (.ref q) (Ext.new hq) (s.new hq ⟨_, upd_same, RelKv.mono (Ext.new hq).toGr r⟩) (.ref (by rw [← s.len]; simp))
section
variable {X : Cx} {Γ : Nat → Addr} {E : XK} {o e f : Expr} {md mk mx : Env → M D} {apos cpos pos : Pos}
theorem re_dnew : RE X Γ E (.Dict [] [] pos) dnewM := by
  refine PE.weaken pe_dnewK fun σ H Q ⟨φ, r, S, s, q, p⟩ => ?_
  exact Post.newK s .nil p
theorem cd_dict (hc : X.calm = true) : CallD X Γ E (.type "dict") dictD := by
  intro pins s σ H xs us Q I rv ⟨φ, S, ds, sm, r, p⟩
  unfold dictD at p
  split at p
  · rename_i n
    obtain ⟨v, rfl, r1⟩ := relDs_one r
    cases r1 with
    | ref hq =>
      cases hS : S[n]? with
      | none => simp only [hS] at p; exact p.elim
      | some o =>
        simp only [hS] at p
        cases o with
        | dK kvs =>
          obtain ⟨vs, h1, h2⟩ := sm.obj n _ _ hS hq
          exact call_dictD pins s σ H _ us Q I rv ⟨_, vs, rfl, .inl h1, Post.newK sm h2 p⟩
        | lst xs =>
          simp only [] at p
          split at p
          · rename_i kvs hk
            obtain ⟨vs, h1, h2⟩ := sm.obj n _ _ hS hq
            obtain ⟨ps, ws, rfl, h3, h4⟩ := pairs_rel hk h2
            exact call_dictP hc pins s σ H _ us Q I rv ⟨_, ps, ws, rfl, SqL.of h1, h3, Post.newK sm (relKv_merge h4 .nil) p⟩
          · exact p.elim
        | dT _ => exact p.elim
        | ins _ _ => exact p.elim
        | exo _ _ => exact p.elim
        | exd _ => exact p.elim
  · exact p.elim
theorem re_dget2 (hu : X.A.units + 1 < cLine) (ho : RE X Γ E o md) (he : RE X Γ E e mk) (hf : RE X Γ E f mx) (m : M2 X o "get" apos e f cpos := by exact ⟨rfl, rfl, rfl, rfl⟩) : RE X Γ E (.Call (.Attribute o "get" apos) [e, f] [] cpos) (dget2M md mk mx) := by
  refine PE.weaken (pe_dget2 hu ho he hf m) fun σ H Q ⟨φ, r, S, s, q, p⟩ => ?_
  refine tE_bnd s q p fun φ1 S1 d v H1 e1 s1 q1 rv p1 => ?_
  rw [bind_def] at p1
  unfold needM at p1
  cases hT : tyD "dict" S1 d with
  | false => simp only [hT] at p1; exact p1.elim
  | true =>
    simp only [hT] at p1
    have dd : ∃ n a, d = .ref n ∧ v = .ref a ∧ φ1[n]? = some a ∧ IsD H1 a := by
      cases d with
      | str x => exact absurd (show ("dict" == "str") = true from hT) (by decide)
      | ref n =>
        cases rv with
        | ref hq =>
          refine ⟨n, _, rfl, rfl, hq, ?_⟩
          have ty := tyD_rel s1 hT (.ref hq)
          rcases ty with ⟨h, _⟩ | ⟨h, _⟩ | ⟨_, h⟩ | ⟨h, _⟩
          · exact absurd h (by decide)
          · exact absurd h (by decide)
          · rcases h with ⟨kvs, h⟩ | ⟨kvs, h⟩
            · exact .inl ⟨kvs, .inl h⟩
            · exact .inr ⟨kvs, .inl h⟩
          · exact absurd h (by decide)
      | _ => cases hT
    obtain ⟨n, a, rfl, rfl, hq, hd⟩ := dd
    refine ⟨a, rfl, hd, ?_⟩
    refine tE_bnd s1 q1 p1 fun φ2 S2 k u H2 e2 s2 q2 ru p2 => ?_
    refine tE_bnd s2 q2 p2 fun φ3 S3 x w H3 e3 s3 q3 rw' p3 => ?_
    have hq3 := e3.get (e2.get hq)
    unfold dgetD at p3
    cases hk : unKey k with
    | none => simp only [hk] at p3; exact p3.elim
    | some key =>
      simp only [hk] at p3
      cases hS : S3[n]? with
      | none => simp only [hS] at p3; exact p3.elim
      | some ob =>
        simp only [hS] at p3
        cases ob with
        | dK kvs =>
          obtain ⟨vs, h1, h2⟩ := s3.obj n _ _ hS hq3
          have := unKey_rel hk ru
          subst this
          refine ⟨valV vs key, .inl ⟨vs, key, .inl h1, rfl, rfl⟩, p3.here s3 ?_⟩
          obtain ⟨h3, h4⟩ := valD_rel h2 key
          cases hv : valD kvs key with
          | none => rw [h4 hv]; exact rw'
          | some d =>
            obtain ⟨z, h5, h6⟩ := h3 d hv
            rw [h5]
            exact h6
        | _ => exact p3.elim
end

/-! ### three names at once -/
def par3M (i j k : Nat) (mA : Env → M (List D)) : Env → M Fl := fun r => do
  let ds ← mA r
  match ds with
  | [x, y, z] => pure (.nx (((r.set i (some x)).set j (some y)).set k (some z)))
  | _ => stuck
section
variable {X : Cx} {Γ : Nat → Addr} {E : XK} {a b c : Expr} {pos : Pos}
theorem rs_par3 {i j l : Nat} {x y z : Str} {mA : Env → M (List D)} {px py pz pt : Pos} {kt k2 pt2} (hc : X.calm = true) (hN : X.N.Nodup) (hi : X.N[i]? = some x) (hj : X.N[j]? = some y) (hl : X.N[l]? = some z) (hij : i ≠ j) (hil : i ≠ l) (hjl : j ≠ l)
    (hx : X.env.scope.names.lookup x = some .local) (hy : X.env.scope.names.lookup y = some .local) (hz : X.env.scope.names.lookup z = some .local) (ha : RA X Γ E [a, b, c] mA)
    (hw : swappedStores [.Tuple [.Name x px, .Name y py, .Name z pz] kt pt] (.Tuple [a, b, c] k2 pt2) X.env = pure (some [x, y, z]))
    (hs : swapsWithSole [.Tuple [.Name x px, .Name y py, .Name z pz] kt pt] (.Tuple [a, b, c] k2 pt2) pos.line X.env = pure false := by rfl) :
    RS X Γ E (.Assign [.Tuple [.Name x px, .Name y py, .Name z pz] kt pt] (.Tuple [a, b, c] k2 pt2) pos) (par3M i j l mA) := by
  refine PS.weaken (ps_par3 hc hN hi hj hl hij hil hjl hx hy hz ha hw hs) fun D σ H ⟨φ, r, S, s, q, p⟩ => ?_
  refine tA_bnd s q p fun φ1 S1 ds vs H1 e1 s1 q1 rv p1 => ?_
  match ds, rv, p1 with
  | [_, _, _], .cons r1 (.cons r2 (.cons r3 .nil)), p1 => exact ⟨_, _, _, rfl, p1.val (v := FV.nx _) s1 (.nx (((q1.set i r1).set j r2).set l r3))⟩
  | [], _, p1 => exact p1.elim
  | [_], _, p1 => exact p1.elim
  | [_, _], _, p1 => exact p1.elim
  | _ :: _ :: _ :: _ :: _, _, p1 => exact p1.elim
end

open PySem PySem.Spec PyProof.Rows L2

/-- xs.index(x), of data -/
def indexD (o : D) (ds : List D) : M D := fun S => match o, ds with
  | .ref n, [d] => match toPy S deep (.ref n), toPy S deep d with
    | some (.list qs), some p => if SeqAt.shaped (.list qs) = true ∧ SeqAt.shaped p = true then (match qs.findIdx? (fun z => PyData.eqv z p) with
      | some j => .ok (.int j) S
      | none => .no) else .no
    | _, _ => .no
  | _, _ => .no
section
variable {X : Cx} {Γ : Nat → Addr} {E : XK}
theorem md_index (hu : X.A.units + 65 < cLine) : MtD X Γ E "list.index" indexD := by
  intro pins s σ H x vs v us Q I rx rv ⟨φ, S, d, ds, sm, r1, r2, p⟩
  unfold indexD at p
  split at p
  · rename_i n d
    obtain ⟨w, rfl, r3⟩ := relDs_one r2
    split at p
    · rename_i qs q h1 h2
      by_cases hs : SeqAt.shaped (.list qs) = true ∧ SeqAt.shaped q = true
      · rw [if_pos hs] at p
        split at p
        · rename_i j hj
          obtain ⟨hl, h3, h4⟩ := List.findIdx?_eq_some_iff_getElem.mp hj
          have d1 := dp_of sm _ _ _ _ h1 (SeqAt.canLay_of_shaped hs.1) r1
          have d2 := dp_of sm _ _ _ _ h2 (SeqAt.canLay_of_shaped hs.2) r3
          cases r1 with
          | @ref _ a hq =>
            refine mt_indexD hu pins s σ H _ _ v us Q I rx rv ⟨a, w, q, qs, j, qs[j], rfl, rfl, d1, d2, hs.1, hs.2, List.getElem?_eq_getElem hl, h3, fun m z hm hz => ?_, p.here sm (.int _)⟩
            obtain ⟨hl2, rfl⟩ := List.getElem?_eq_some_iff.mp hz
            simpa using h4 m hm
        · exact p.elim
      · rw [if_neg hs] at p; exact p.elim
    · exact p.elim
  · exact p.elim
end

open PySem PySem.Spec PyProof.Rows L2

/-! ### {k: v, ..} -/
def pnilM : Env → M (List (D × D)) := fun _ => pure []
def pconM (mk mv : Env → M D) (m : Env → M (List (D × D))) : Env → M (List (D × D)) := fun r => do
  let x ← mk r
  let y ← mv r
  let ps ← m r
  pure ((x, y) :: ps)
def kvsOf : List (D × D) → Option (List (Key × D))
  | [] => some []
  | (k, v) :: r => match unKey k, kvsOf r with
    | some a, some l => some ((a, v) :: l)
    | _, _ => none
def dispF (ps : List (D × D)) : M D := fun S => match kvsOf ps with
  | some kvs => if kvs.length ≤ 15 then newO (.dK (mergeKD [] kvs)) S else .no
  | none => .no
def dispM (m : Env → M (List (D × D))) : Env → M D := fun r => m r >>= dispF
section
variable {X : Cx} {Γ : Nat → Addr} {E : XK} {K : PySem.W.Frag}
abbrev rPs (K : PySem.W.Frag) : Hp → List Addr → List (D × D) → List (V × V) → Prop := fun H φ => Paired fun a b => RelD K H φ a.1 b.1 ∧ RelD K H φ a.2 b.2
inductive PMt (K : PySem.W.Frag) (Γ : Nat → Addr) (E : XK) : List (TE × TE) → (Env → M (List (D × D))) → Prop
  | nil : PMt K Γ E [] pnilM
  | cons {trs : List (TE × TE)} {m : Env → M (List (D × D))} {mk mv : Env → M D} : PMt K Γ E trs m → PMt K Γ E ((tE K Γ E mk, tE K Γ E mv) :: trs) (pconM mk mv m)
theorem PMt.go {trs : List (TE × TE)} {m : Env → M (List (D × D))} (t : PMt K Γ E trs m) : ∀ {φ : List Addr} {r : Env} {S : Sto} {H : Hp} {σ : Sl} {Q : List (V × V) → Hp → Prop}, Sim K Γ φ S H → RelE K H φ r σ → Post K Γ E (rPs K) φ H (m r S) Q → tPairs trs σ H Q := by
  induction t with
  | nil =>
    intro φ r S H σ Q s q p
    exact p.val s .nil
  | @cons trs m mk mv t ih =>
    intro φ r S H σ Q s q p
    refine tE_bnd s q p fun φ1 S1 d v H1 e1 s1 q1 rv p1 => ?_
    refine tE_bnd s1 q1 p1 fun φ2 S2 d2 v2 H2 e2 s2 q2 rv2 p2 => ?_
    refine ih s2 q2 ((Post.bnd (rel := rPs K) p2).imp fun ps H3 ⟨φ3, S3, ds, e3, s3, r3, p3⟩ => ?_)
    exact p3.val s3 (.cons ⟨RelD.mono (e2.trans e3) _ _ rv, RelD.mono e3 _ _ rv2⟩ r3)
theorem kvs_rel {H : Hp} {φ : List Addr} : ∀ {ps : List (D × D)} {vs : List (V × V)} {kvs : List (Key × D)}, kvsOf ps = some kvs → rPs K H φ ps vs → ∃ ws : List (Key × V), vs = ws.map (fun kv => (kV kv.1, kv.2)) ∧ RelKv K H φ kvs ws
  | [], _, _, e, r => by
    cases r
    unfold kvsOf at e
    cases e
    exact ⟨[], rfl, .nil⟩
  | (k, v) :: ps, _, _, e, r => by
    cases r with
    | @cons _ b _ bs r1 r2 =>
      unfold kvsOf at e
      split at e
      · rename_i a l h1 h2
        cases e
        obtain ⟨ws, rfl, h3⟩ := kvs_rel h2 r2
        obtain ⟨b1, b2⟩ := b
        have hk : b1 = kV a := unKey_rel h1 r1.1
        subst hk
        exact ⟨(a, b2) :: ws, rfl, .cons ⟨rfl, r1.2⟩ h3⟩
      · cases e
theorem relKv_length {κ : Type} {H : Hp} {φ : List Addr} {ks : List (κ × D)} {vs : List (κ × V)} (r : RelKv K H φ ks vs) : ks.length = vs.length := Paired.length r
theorem re_disp {pos : Pos} {keys : List (Option Expr)} {values : List Expr} {trs : List (TE × TE)} {m : Env → M (List (D × D))} (h : PPs X pos keys values trs) (t : PMt X.K Γ E trs m) (hall : keys.all (·.isSome) = true) (hl : keys.length = values.length) (h0 : keys ≠ [])
    (h15 : keys.length ≤ 15) : RE X Γ E (.Dict keys values pos) (dispM m) := by
  refine PE.weaken (pe_disp h hall hl h0 h15) fun σ H Q ⟨φ, r, S, s, q, p⟩ => ?_
  intro D hD
  have q' := q.mono (Ext.new0 (o := .dK []) hD)
  refine t.go (s.hide hD) q' ?_
  unfold dispM at p
  cases hm : m r S with
  | no => rw [bind_def, hm] at p; exact p.elim
  | err c fs S1 =>
    rw [bind_def, hm] at p
    exact fun φ' H' dx e' s' x => p φ' H' dx ((Ext.new0 hD).trans e') s' x
  | ok ps S1 =>
    rw [bnd_ok hm] at p
    unfold dispF at p
    intro φ' H' vs e' s' rv
    cases hk : kvsOf ps with
    | none => simp only [hk] at p; exact p.elim
    | some kvs =>
      simp only [hk] at p
      by_cases hz : kvs.length ≤ 15
      · rw [if_pos hz] at p
        obtain ⟨ws, rfl, rk⟩ := kvs_rel hk rv
        obtain ⟨hD2, hn⟩ := e'.hid D _ upd_same (s.fresh hD)
        have mu : Mut (H' D) := by rw [hD2]; exact trivial
        refine ⟨hD2, ws, rfl, by rw [← relKv_length rk]; exact hz, ?_⟩
        have s2 : Sim X.K Γ φ' S1 (upd H' D (.dK (mergeK [] ws))) := (s'.hid hn mu).1
        have kD := (s'.hid (ho := .dK (mergeK [] ws)) hn mu).2
        have gr : Gr X.K φ' (upd H' D (.dK (mergeK [] ws))) (φ' ++ [D]) (upd H' D (.dK (mergeK [] ws))) := ⟨⟨[D], rfl⟩, fun _ _ h => h, fun _ _ h => h⟩
        have rk2 : RelKv X.K (upd H' D (.dK (mergeK [] ws))) φ' kvs ws := Paired.mapP rk fun a b ⟨z1, z2⟩ => ⟨z1, kD _ _ z2⟩
        have ro : RelO X.K Γ (upd H' D (.dK (mergeK [] ws))) (φ' ++ [D]) D (.dK (mergeKD [] kvs)) := ⟨_, upd_same, RelKv.mono gr (relKv_merge rk2 .nil)⟩
        refine p (φ' ++ [D]) (upd H' D (.dK (mergeK [] ws))) (.ref D) ?_ (s2.unhide hn ro (.inl gr)) (.ref (by rw [← s2.len, List.getElem?_append_right (Nat.le_refl _)]; simp))
        refine ⟨⟨?_, fun a vs h => sqT_upd_mut mu (e'.tup a vs (sqT_upd_new hD h)), fun a vs h => frl_upd (.inr mu) (e'.frl a vs (frl_upd (.inl hD) h))⟩, fun b u hb nb => ?_⟩
        · obtain ⟨t, ht⟩ := e'.pre
          exact ⟨t ++ [D], by rw [ht, List.append_assoc]⟩
        · have ne : b ≠ D := ne_of_none hb hD
          obtain ⟨z1, z2⟩ := e'.hid b u (by rw [upd_ne ne]; exact hb) nb
          refine ⟨by rw [upd_ne ne]; exact z1, fun z => ?_⟩
          rcases List.mem_append.mp z with z | z
          · exact z2 z
          · exact ne (by simpa using z)
      · rw [if_neg hz] at p; exact p.elim
end

/-! own classes: fields, making, methods -/
open PySem PySem.Spec PyProof.Rows L2

theorem relKv_lookup {K : PySem.W.Frag} {H : Hp} {φ : List Addr} {f : Str} : ∀ {fs : List (Str × D)} {vs : List (Str × V)}, RelKv K H φ fs vs → (∀ d, fs.lookup f = some d → ∃ v, vs.lookup f = some v ∧ RelD K H φ d v) ∧ (fs.lookup f = none → vs.lookup f = none)
  | _, _, .nil => ⟨fun d h => (by cases h), fun _ => rfl⟩
  | _, _, .cons (a := p) (b := q) a t => by
    obtain ⟨x, d⟩ := p
    obtain ⟨y, v⟩ := q
    obtain ⟨e, r⟩ := a
    obtain rfl : x = y := e
    obtain ⟨i1, i2⟩ := relKv_lookup (f := f) t
    simp only [List.lookup_cons]
    by_cases hx : (f == x) = true
    · rw [hx]
      exact ⟨fun d' h => ⟨v, rfl, (by cases h; exact r)⟩, fun h => (by cases h)⟩
    · rw [Bool.eq_false_iff.mpr hx]
      exact ⟨i1, i2⟩
/-! ### e.f -/
def fldD (cs : List Nat) (f : Str) (d : D) : M D := fun S => match d with
  | .ref n => match S[n]? with
    | some (.ins c fs) => if c ∈ cs then (match fs.lookup f with
      | some v => .ok v S
      | none => .no) else .no
    | _ => .no
  | _ => .no
def fldM (cs : List Nat) (f : Str) (m : Env → M D) : Env → M D := fun r => m r >>= fldD cs f
section
variable {X : Cx} {Γ : Nat → Addr} {E : XK} {e o value : Expr} {m mo mv : Env → M D} {f : Str} {pos pos' : Pos}
theorem sim_ins {K : PySem.W.Frag} {φ : List Addr} {S : Sto} {H : Hp} {n c : Nat} {a : Addr} {fs : List (Str × D)} (s : Sim K Γ φ S H) (hq : φ[n]? = some a) (h : S[n]? = some (.ins c fs)) : ∃ dx vs, H a = some (.ins (Γ c) dx vs) ∧ RelKv K H φ fs vs := s.obj n _ _ h hq
theorem re_fld {cs : List Nat} (hc : ∀ c ∈ cs, Cls X.K (Γ c) ∧ NoAttr X.K (Γ c) f) (he : RE X Γ E e m) (hb : attributeBase e f X.env (eval e X.env) = eval e X.env := by rfl) : RE X Γ E (.Attribute e f pos) (fldM cs f m) := by
  refine PE.weaken (pe_fld he hb) fun σ H Q ⟨φ, r, S, s, q, p⟩ => ?_
  refine tE_bnd s q p fun φ1 S1 d v H1 e1 s1 q1 rv p1 => ?_
  unfold fldD at p1
  cases d with
  | ref n =>
    cases rv with
    | @ref _ a hq =>
      cases hS : S1[n]? with
      | none => simp only [hS] at p1; exact p1.elim
      | some u =>
        cases u with
        | ins c fs =>
          simp only [hS] at p1
          by_cases hcs : c ∈ cs
          · rw [if_pos hcs] at p1
            cases hl : fs.lookup f with
            | none => simp only [hl] at p1; exact p1.elim
            | some d' =>
              simp only [hl] at p1
              obtain ⟨dx, vs, h1, h2⟩ := sim_ins s1 hq hS
              obtain ⟨w, h3, h4⟩ := (relKv_lookup h2).1 d' hl
              exact ⟨a, Γ c, dx, vs, w, rfl, h1, (hc c hcs).1, (hc c hcs).2, h3, p1.here s1 h4⟩
          · rw [if_neg hcs] at p1; exact p1.elim
        | _ => simp only [hS] at p1; exact p1.elim
  | _ => exact p1.elim
end
/-! ### o.m(..) -/
def insOk (c : Nat) (m : Str) (o : D) : M Unit := fun S => match o with
  | .ref n => match S[n]? with
    | some (.ins c' fs) => if c' = c ∧ fs.lookup m = none then .ok () S else .no
    | _ => .no
  | _ => .no
def methM (c : Nat) (m : Str) (f : List D → M D) (mo : Env → M D) (mA : Env → M (List D)) : Env → M D := fun r => mo r >>= fun o => insOk c m o >>= fun _ => mA r >>= fun ds => f (o :: ds)
section
variable {X : Cx} {Γ : Nat → Addr} {E : XK} {e o : Expr} {es : List Expr} {mo : Env → M D} {mA : Env → M (List D)} {CX : CXT} {k n c : Nat} {f C : Addr} {fd : FuncData} {ps : List Str} {sp : Sp} {m x : Str} {p pos apos : Pos} {ta : TE} {t : TA} {mf : List D → M D}
def tMethG (C : Addr) (m : Str) (sp : Sp) (E : XK) (ta : TE) (t : TA) : TE := fun σ H Q => ta σ H fun x H1 => ∃ a dx fs, x = .ref a ∧ H1 a = some (.ins C dx fs) ∧ fs.lookup m = none ∧ t σ H1 fun vs H2 => sp (x :: vs) H2 Q E
theorem pe_methG {pl : Sem Bool} (he : PE X o ta) (hC : Cls X.K C) (hm : Meth X.K C m f) (F : FnG X.prog X.w X.K X.mg X.base CX k f fd ps sp) (hq : Quiet X.A) (hr : Room k X.A) (hb : Binds X.K fd ps []) (hx : Passes CX X E) (ha : PA X (e :: es) t)
    (h1 : starEach (e :: es) X.env = (false, eval e X.env) :: starEach es X.env := by rfl) (h2 : (backTo pos (starEach es X.env)).any (·.1) = false := by rfl)
    (h3 : eval (.Call (.Attribute o m apos) (e :: es) [] pos) X.env = (do
      let recv ← eval o X.env
      standAt apos.atName
      let (g, first) ← holding [recv] (getMethod recv m pl)
      callWith pos g first (backTo pos (starEach (e :: es) X.env)) (backToKw pos (keywordEach [] X.env))) := by rfl) :
    PE X (.Call (.Attribute o m apos) (e :: es) [] pos) (tMethG C m sp E ta t) := by
  refine ⟨fun pins s σ H Q I h => PySem.W.methodCall_KW (pl := pl) (thn (he.run pins s σ H _ I h) ?_) h3⟩
  rintro u s1 ⟨x, H1, I1, rx, a, dx, fs, rfl, ea, l, q⟩
  obtain rfl : u = Value.ref a := rx
  refine getmeth_ok I1 ea hC hm l ?_
  refine PySem.W.callWith_K (h₀ := X.base) (first := [.ref a]) I.ok.mod.kin hm.kp (thn (ha.run pos pins s1 σ H1 _ I1 q) ?_) h1 h2
  rintro us s2 ⟨vs, H2, I2, r, q2⟩
  exact ⟨I2.kIn, call_G (us := .ref a :: us) (vs := .ref a :: vs) F hq hr hb hx I2 (.cons rfl r) q2⟩
theorem pe_methG0 {pl : Sem Bool} (he : PE X o ta) (hC : Cls X.K C) (hm : Meth X.K C m f) (F : FnG X.prog X.w X.K X.mg X.base CX k f fd ps sp) (hq : Quiet X.A) (hr : Room k X.A) (hb : Binds X.K fd ps []) (hx : Passes CX X E)
    (h3 : eval (.Call (.Attribute o m apos) [] [] pos) X.env = (do
      let recv ← eval o X.env
      standAt apos.atName
      let (g, first) ← holding [recv] (getMethod recv m pl)
      callWith pos g first (backTo pos (starEach [] X.env)) (backToKw pos (keywordEach [] X.env))) := by rfl) :
    PE X (.Call (.Attribute o m apos) [] [] pos) (tMethG C m sp E ta tNil) := by
  refine ⟨fun pins s σ H Q I h => PySem.W.methodCall_KW (pl := pl) (thn (he.run pins s σ H _ I h) ?_) h3⟩
  rintro u s1 ⟨x, H1, I1, rx, a, dx, fs, rfl, ea, l, q⟩
  obtain rfl : u = Value.ref a := rx
  refine getmeth_ok I1 ea hC hm l ?_
  exact PySem.W.callWith_K0 (first := [.ref a]) I1.kIn hm.kp (call_G (us := [.ref a]) (vs := [.ref a]) F hq hr hb hx I1 (.cons rfl .nil) q)
theorem meth_to {φ : List Addr} {r : Env} {S : Sto} {σ : Sl} {H : Hp} {Q : VK} (hl : ∀ r S ds S', mA r S = .ok ds S' → ds.length + 1 = n) (s : Sim X.K Γ φ S H) (q : RelE X.K H φ r σ) (p : Post X.K Γ E (rD X.K) φ H (methM c m mf mo mA r S) Q) :
    tMethG (Γ c) m (spM X.K Γ n mf) E (tE X.K Γ E mo) (tA X.K Γ E mA) σ H Q := by
  unfold methM at p
  refine tE_bnd s q p fun φ1 S1 d v H1 e1 s1 q1 rv p1 => ?_
  unfold insOk at p1
  cases d with
  | ref k =>
    cases rv with
    | @ref _ a hq =>
      cases hS : S1[k]? with
      | none =>
        rw [bind_def] at p1
        simp only [hS] at p1
        exact p1.elim
      | some u =>
        cases u with
        | ins c' fs =>
          by_cases hz : c' = c ∧ fs.lookup m = none
          · obtain ⟨rfl, hl2⟩ := hz
            obtain ⟨dx, vs, h1, h2⟩ := sim_ins s1 hq hS
            refine ⟨a, dx, vs, rfl, h1, (relKv_lookup h2).2 hl2, ?_⟩
            have p2 : Post X.K Γ E (rD X.K) φ1 H1 ((mA r >>= fun ds => mf (.ref k :: ds)) S1) Q := by
              rw [bind_def] at p1
              simp only [hS, hl2, and_self, if_true] at p1
              exact p1
            refine ⟨φ1, r, S1, s1, q1, ?_⟩
            cases hm : mA r S1 with
            | ok ds S2 =>
              rw [bnd_ok hm] at p2
              exact fun φ2 H2 vs2 e2 s2 rv2 => ⟨by rw [List.length_cons, ← RelDs.length rv2]; exact hl r S1 ds S2 hm, φ2, S2, .ref k :: ds, s2, .cons (.ref (e2.toGr.get hq)) rv2, p2.mono e2⟩
            | err c2 fs2 S2 => rw [bind_def, hm] at p2; exact p2
            | no => rw [bind_def, hm] at p2; exact p2
          · rw [bind_def] at p1
            simp only [hS, if_neg hz] at p1
            exact p1.elim
        | lst _ => rw [bind_def] at p1; simp only [hS] at p1; exact p1.elim
        | dK _ => rw [bind_def] at p1; simp only [hS] at p1; exact p1.elim
        | dT _ => rw [bind_def] at p1; simp only [hS] at p1; exact p1.elim
        | exo _ _ => rw [bind_def] at p1; simp only [hS] at p1; exact p1.elim
        | exd _ => rw [bind_def] at p1; simp only [hS] at p1; exact p1.elim
  | _ => rw [bind_def] at p1; exact p1.elim
theorem re_meth {pl : Sem Bool} (he : RE X Γ E o mo) (hC : Cls X.K (Γ c)) (hm : Meth X.K (Γ c) m f) (F : FnG X.prog X.w X.K X.mg X.base CX k f fd ps (spM X.K Γ n mf)) (hq : Quiet X.A) (hr : Room k X.A) (hb : Binds X.K fd ps []) (hx : Passes CX X E) (ha : RA X Γ E (e :: es) mA)
    (hl : ∀ r S ds S', mA r S = .ok ds S' → ds.length + 1 = n)
    (h1 : starEach (e :: es) X.env = (false, eval e X.env) :: starEach es X.env := by rfl) (h2 : (backTo pos (starEach es X.env)).any (·.1) = false := by rfl)
    (h3 : eval (.Call (.Attribute o m apos) (e :: es) [] pos) X.env = (do
      let recv ← eval o X.env
      standAt apos.atName
      let (g, first) ← holding [recv] (getMethod recv m pl)
      callWith pos g first (backTo pos (starEach (e :: es) X.env)) (backToKw pos (keywordEach [] X.env))) := by rfl) :
    RE X Γ E (.Call (.Attribute o m apos) (e :: es) [] pos) (methM c m mf mo mA) :=
  PE.weaken (pe_methG he hC hm F hq hr hb hx ha h1 h2 h3) fun σ H Q ⟨φ, r, S, s, q, p⟩ => meth_to hl s q p
theorem re_meth0 {pl : Sem Bool} (he : RE X Γ E o mo) (hC : Cls X.K (Γ c)) (hm : Meth X.K (Γ c) m f) (F : FnG X.prog X.w X.K X.mg X.base CX k f fd ps (spM X.K Γ 1 mf)) (hq : Quiet X.A) (hr : Room k X.A) (hb : Binds X.K fd ps []) (hx : Passes CX X E)
    (h3 : eval (.Call (.Attribute o m apos) [] [] pos) X.env = (do
      let recv ← eval o X.env
      standAt apos.atName
      let (g, first) ← holding [recv] (getMethod recv m pl)
      callWith pos g first (backTo pos (starEach [] X.env)) (backToKw pos (keywordEach [] X.env))) := by rfl) :
    RE X Γ E (.Call (.Attribute o m apos) [] [] pos) (methM c m mf mo nilA) :=
  PE.weaken (pe_methG0 he hC hm F hq hr hb hx h3) fun σ H Q ⟨φ, r, S, s, q, p⟩ => by
    obtain ⟨φ1, r1, S1, s1, q1, p1⟩ := meth_to (n := 1) (fun r S ds S' h => by cases h; rfl) s q p
    refine ⟨φ1, r1, S1, s1, q1, p1.imp fun v H1 ⟨a, dx, fs, z1, z2, z3, z4⟩ => ⟨a, dx, fs, z1, z2, z3, ?_⟩⟩
    obtain ⟨φ2, r2, S2, s2, q2, p2⟩ := z4
    exact p2.here s2 .nil
end

/-! own classes: a field set, an instance made -/
open PySem PySem.Spec PyProof.Rows L2

def putD (f : Str) (d : D) : List (Str × D) → List (Str × D)
  | [] => [(f, d)]
  | (g, x) :: r => if g = f then (g, d) :: r else (g, x) :: putD f d r
theorem relKv_putD {K : PySem.W.Frag} {H : Hp} {φ : List Addr} {f : Str} {d : D} {v : V} (hv : RelD K H φ d v) : ∀ {fs : List (Str × D)} {vs : List (Str × V)}, RelKv K H φ fs vs → RelKv K H φ (putD f d fs) (putF f v vs)
  | _, _, .nil => .cons ⟨rfl, hv⟩ .nil
  | _, _, .cons (a := p) (b := q) a t => by
    obtain ⟨x, d'⟩ := p
    obtain ⟨y, v'⟩ := q
    obtain ⟨e, r⟩ := a
    obtain rfl : x = y := e
    unfold putD putF
    by_cases hx : x = f
    · rw [if_pos hx, if_pos hx]
      exact .cons ⟨rfl, hv⟩ t
    · rw [if_neg hx, if_neg hx]
      exact .cons ⟨rfl, r⟩ (relKv_putD hv t)
def fsetD (cs : List Nat) (f : Str) (o v : D) : M Unit := fun S => match o with
  | .ref n => match S[n]? with
    | some (.ins c fs) => if c ∈ cs ∧ fs.length < 1000 then .ok () (S.set n (.ins c (putD f v fs))) else .no
    | _ => .no
  | _ => .no
def fsetM (cs : List Nat) (f : Str) (mo mv : Env → M D) : Env → M Fl := fun r => mv r >>= fun v => mo r >>= fun o => fsetD cs f o v >>= fun _ => pure (.nx r)
section
variable {X : Cx} {Γ : Nat → Addr} {E : XK} {e o value : Expr} {mo mv : Env → M D} {f : Str} {pos pos' : Pos}
theorem rs_fset {cs : List Nat} (hc : ∀ c ∈ cs, Cls X.K (Γ c) ∧ NoAttr X.K (Γ c) f) (ho : RE X Γ E o mo) (hv : RE X Γ E value mv) (hs : swapsWith value (some (.Attribute o f pos')) pos.line X.env = pure false := by rfl) : RS X Γ E (.Assign [.Attribute o f pos'] value pos) (fsetM cs f mo mv) := by
  refine PS.weaken (ps_fld ho hv hs) fun D σ H ⟨φ, r, S, s, q, p⟩ => ?_
  refine tE_bnd s q p fun φ1 S1 dv y H1 e1 s1 q1 ry p1 => ?_
  refine tE_bnd s1 q1 p1 fun φ2 S2 d x H2 e2 s2 q2 rx p2 => ?_
  unfold fsetD at p2
  rw [bind_def] at p2
  cases d with
  | ref n =>
    cases rx with
    | @ref _ a hq =>
      cases hS : S2[n]? with
      | none => simp only [hS] at p2; exact p2.elim
      | some u =>
        cases u with
        | ins c fs =>
          simp only [hS] at p2
          by_cases hz : c ∈ cs ∧ fs.length < 1000
          · rw [if_pos hz] at p2
            obtain ⟨dx, vs, h1, h2⟩ := sim_ins s2 hq hS
            have mu : Mut (H2 a) := by rw [h1]; exact trivial
            have e3 := Ext.mut (K := X.K) (φ := φ2) (o := HO.ins (Γ c) dx (putF f y vs)) mu hq
            have rk : RelKv X.K (upd H2 a (.ins (Γ c) dx (putF f y vs))) φ2 (putD f dv fs) (putF f y vs) := RelKv.mono e3.toGr (relKv_putD (RelD.mono e2 _ _ ry) h2)
            refine ⟨a, Γ c, dx, vs, rfl, h1, (hc c hz.1).1, (hc c hz.1).2, by rw [← relKv_length h2]; exact hz.2, ?_⟩
            exact p2 φ2 (upd H2 a (.ins (Γ c) dx (putF f y vs))) (FV.nx σ) e3 (s2.set hS hq ⟨dx, _, upd_same, rk⟩) (.nx (q2.mono e3))
          · rw [if_neg hz] at p2; exact p2.elim
        | lst _ => simp only [hS] at p2; exact p2.elim
        | dK _ => simp only [hS] at p2; exact p2.elim
        | dT _ => simp only [hS] at p2; exact p2.elim
        | exo _ _ => simp only [hS] at p2; exact p2.elim
        | exd _ => simp only [hS] at p2; exact p2.elim
  | _ => exact p2.elim
end
/-! ### C(..) -/
def mkM (c : Nat) (mi : List D → M D) : List D → M D := fun ds S => match mi (.ref S.length :: ds) (S ++ [.ins c []]) with
  | .ok .non S' => .ok (.ref S.length) S'
  | .ok _ _ => .no
  | .err c' fs S' => .err c' fs S'
  | .no => .no
section
variable {X : Cx} {Γ : Nat → Addr} {E : XK} {e : Expr} {es : List Expr} {mA : Env → M (List D)} {CX : CXT} {k n c : Nat} {f C : Addr} {fd : FuncData} {ps : List Str} {sp : Sp} {x : Str} {p pos : Pos} {t : TA} {mi : List D → M D} {dvs : List V} {ds : List Value}
theorem run_makeG {pins : List (Addr × Obj)} {σ : Sl} {H : Hp} {s : Shared} {Q : VK} {us : List Value} {vs : List V} (T : Mk X.K C f) (F : FnG X.prog X.w X.K X.mg X.base CX k f fd ps sp) (hq : Quiet X.A) (hr : Room (k + 1) X.A) (hb : Binds X.K fd ps ds) (hd : Vals dvs ds)
    (hx : Passes CX X E) (I : Inv X pins σ H s) (r : Vals vs us) (h : ∀ y dx, H y = none → H dx = none → dx ≠ y → sp (.ref y :: (vs ++ dvs)) (upd (upd H dx (.own y)) y (.ins C dx [])) (fun v H2 => v = .non ∧ Q (.ref y) H2) E) :
    wpAny (model X.prog X.w) X.A (call (.ref C) us) (EP X pins σ Q) X.xe s := by
  have z := h (s.heap.objs.size + 1) s.heap.objs.size (I.hok.fresh (Nat.le_succ _)) (I.hok.fresh (Nat.le_refl _)) (Nat.ne_of_lt (Nat.lt_succ_self _))
  have J := Inv.made (C := C) I
  have rr : Vals (V.ref (s.heap.objs.size + 1) :: (vs ++ dvs)) (Value.ref (s.heap.objs.size + 1) :: (us ++ ds)) := .cons rfl (r.append hd)
  have hz : (Value.ref (s.heap.objs.size + 1) :: us ++ ds).length = ps.length := by
    rw [← F.few _ _ _ _ z]
    exact rr.length.symm
  have go := F.go (X.A.under (.builtin "type.__call__" ⟨.ref C :: us, []⟩)) X.stack _ _ ⟨Value.ref (s.heap.objs.size + 1) :: us, []⟩
    (Value.ref (s.heap.objs.size + 1) :: (us ++ ds)) _ _ E hq (hr.make C us []) (J.env0.make C us [])
    (hb _ (Value.ref (s.heap.objs.size + 1) :: us) J.kIn hz) rr z
  refine wpAny_call (make_map (f := f) I.kIn T.makes T.init (beq_iff_eq.mp T.fn) (codeAny_mono go fun res s' q => ?_))
  match res, q with
  | .error ev, q => exact hx pins σ _ _ ev s' J q
  | .ok (.ret u), q =>
    obtain ⟨v, H', J', rv, ev, q3⟩ := J.after q
    subst ev
    exact ⟨rv, V.ref (s.heap.objs.size + 1), H', J', rfl, q3⟩
def tMakeG (C : Addr) (sp : Sp) (dvs : List V) (E : XK) (t : TA) : TE := fun σ H Q => t σ H fun vs H1 => ∀ y dx, H1 y = none → H1 dx = none → dx ≠ y → sp (.ref y :: (vs ++ dvs)) (upd (upd H1 dx (.own y)) y (.ins C dx [])) (fun v H2 => v = .non ∧ Q (.ref y) H2) E
theorem pe_makeG (T : Mk X.K C f) (F : FnG X.prog X.w X.K X.mg X.base CX k f fd ps sp) (hq : Quiet X.A) (hr : Room (k + 1) X.A) (hg : Gl X x) (hm : X.mg x = some (.ref C)) (hb : Binds X.K fd ps ds) (hd : Vals dvs ds) (hx : Passes CX X E)
    (ha : PA X (e :: es) t) (hdb : (x == ("__debug__" : Str)) = false := by decide) (h1 : starEach (e :: es) X.env = (false, eval e X.env) :: starEach es X.env := by rfl) (h2 : (backTo pos (starEach es X.env)).any (·.1) = false := by rfl) :
    PE X (.Call (.Name x p) (e :: es) [] pos) (tMakeG C sp dvs E t) := by
  refine ⟨fun pins s σ H Q I h => wpAny_Call_Name_kw (ld_glob I hg hm ?_ hdb)⟩
  refine PySem.W.callWith_K (h₀ := X.base) I.ok.mod.kin T.kp (thn (ha.run pos pins s σ H _ I h) ?_) h1 h2
  rintro us s1 ⟨vs, H1, I1, r, q⟩
  exact ⟨I1.kIn, run_makeG T F hq hr hb hd hx I1 r q⟩
theorem make_to {K : PySem.W.Frag} {φ : List Addr} {S : Sto} {H : Hp} {Q : VK} {l : List D} {vs : List V} (hl : l.length + 1 = n) (s : Sim K Γ φ S H) (rv : RelDs K H φ l vs) (p : Post K Γ E (rD K) φ H (mkM c mi l S) Q) {y dx : Addr} (h1 : H y = none) (h2 : H dx = none) (h3 : dx ≠ y) :
    spM K Γ n mi (.ref y :: vs) (upd (upd H dx (.own y)) y (.ins (Γ c) dx [])) (fun v H2 => v = .non ∧ Q (.ref y) H2) E := by
  have hy : upd H dx (.own y) y = none := by rw [upd_ne (Ne.symm h3)]; exact h1
  have e1 : Ext K φ H φ (upd H dx (.own y)) := Ext.new0 h2
  have e2 : Ext K φ (upd H dx (.own y)) (φ ++ [y]) (upd (upd H dx (.own y)) y (.ins (Γ c) dx [])) := Ext.new hy
  have e := e1.trans e2
  have s2 : Sim K Γ (φ ++ [y]) (S ++ [.ins c []]) (upd (upd H dx (.own y)) y (.ins (Γ c) dx [])) := (s.hide h2).new hy ⟨dx, [], upd_same, .nil⟩
  have hn : (φ ++ [y])[S.length]? = some y := by rw [← s.len, List.getElem?_append_right (Nat.le_refl _)]; simp
  refine ⟨by rw [List.length_cons, ← RelDs.length rv]; exact hl, φ ++ [y], S ++ [.ins c []], .ref S.length :: l, s2, .cons (.ref hn) (RelDs.mono e _ _ rv), ?_⟩
  unfold mkM at p
  cases hm : mi (.ref S.length :: l) (S ++ [.ins c []]) with
  | ok d S' =>
    cases d with
    | non =>
      simp only [hm] at p
      intro φ' H' v e' s' r
      cases r
      exact ⟨rfl, p φ' H' (.ref y) (e.trans e') s' (.ref (e'.toGr.get hn))⟩
    | _ => simp only [hm] at p; exact p.elim
  | err c' fs S' =>
    simp only [hm] at p
    exact fun φ' H' dx' e' s' x' => p φ' H' dx' (e.trans e') s' x'
  | no => simp only [hm] at p; exact p.elim
theorem re_make (T : Mk X.K (Γ c) f) (F : FnG X.prog X.w X.K X.mg X.base CX k f fd ps (spM X.K Γ n mi)) (hq : Quiet X.A) (hr : Room (k + 1) X.A) (hg : Gl X x) (hm : X.mg x = some (.ref (Γ c))) (hb : Binds X.K fd ps []) (hx : Passes CX X E)
    (ha : RA X Γ E (e :: es) mA) (hl : ∀ r S ds S', mA r S = .ok ds S' → ds.length + 1 = n) (hdb : (x == ("__debug__" : Str)) = false := by decide) (h1 : starEach (e :: es) X.env = (false, eval e X.env) :: starEach es X.env := by rfl) (h2 : (backTo pos (starEach es X.env)).any (·.1) = false := by rfl) :
    RE X Γ E (.Call (.Name x p) (e :: es) [] pos) (clM (mkM c mi) mA) := by
  refine PE.weaken (pe_makeG (dvs := []) T F hq hr hg hm hb .nil hx ha hdb h1 h2) fun σ H Q ⟨φ, r, S, s, q, p⟩ => ?_
  have p' : Post X.K Γ E (rD X.K) φ H ((mA r >>= mkM c mi) S) Q := p
  refine ⟨φ, r, S, s, q, ?_⟩
  cases hm2 : mA r S with
  | ok ds S1 =>
    rw [bnd_ok hm2] at p'
    intro φ1 H1 vs e1 s1 rv y dx z1 z2 z3
    rw [List.append_nil]
    exact make_to (hl r S ds S1 hm2) s1 rv (p'.mono e1) z1 z2 z3
  | err c' fs S1 => rw [bind_def, hm2] at p'; exact p'
  | no => rw [bind_def, hm2] at p'; exact p'
end

/-! sorted(xs) of texts, numbers, tuples of them -/
open PySem PySem.Spec PyProof.Rows L2

def tup1 : PyData → Bool
  | .tuple (_ :: _) => true
  | _ => false
def noTup : PyData → Bool
  | .tuple _ => false
  | .none => false
  | _ => true
def canSort (ps : List PyData) : Bool := (ps.all fun p => ps.all fun q => PySem.W.alike p q) && (ps.all tup1 || ps.all noTup) && ps.all fun p => decide (p.depth ≤ 64)
/-- xs in the order of what they read as -/
def sortL (xs : List D) (ps : List PyData) : List D := ((xs.zip ps).mergeSort (PySem.W.dataLe false Prod.snd)).map Prod.fst
def sortedL (S : Sto) (xs : List D) : Option (List D) := match toPys (toPy S deep) xs with
  | some ps => if canSort ps = true ∧ xs.length ≤ sizeLine then some (sortL xs ps) else none
  | none => none
def sortedD : List D → M D
  | [d] => fun S => match seqL S d with
    | some xs => match sortedL S xs with
      | some ys => newO (.lst ys) S
      | none => .no
    | none => .no
  | _ => stuck
theorem canSort_of {ps : List PyData} (h : canSort ps = true) : PySem.W.AllAlike ps ∧ PySem.W.Sortable ps ∧ ∀ p ∈ ps, p.depth ≤ 64 := by
  unfold canSort at h
  rw [Bool.and_eq_true, Bool.and_eq_true] at h
  refine ⟨fun d hd d' hd' => List.all_eq_true.mp (List.all_eq_true.mp h.1.1 d hd) d' hd', ?_, fun p hp => of_decide_eq_true (List.all_eq_true.mp h.2 p hp)⟩
  rcases Bool.or_eq_true _ _ ▸ h.1.2 with h1 | h1
  · refine .inl fun d hd => ?_
    have := List.all_eq_true.mp h1 d hd
    unfold tup1 at this
    split at this
    · exact ⟨_, _, rfl⟩
    · cases this
  · refine .inr fun d hd => ?_
    have := List.all_eq_true.mp h1 d hd
    constructor
    · rintro rfl; cases this
    · rintro xs rfl; cases this
section
variable {X : Cx} {Γ : Nat → Addr} {E : XK}
/-- what stands for a thing, and what it reads as -/
def StR (K : PySem.W.Frag) (H : Hp) (φ : List Addr) (h : Heap) (v : Value) (b : D × PyData) : Prop := ∃ x : V, RelV x v ∧ RelD K H φ b.1 x ∧ ∃ as, Reads h v b.2 as
theorem stR_list (hz : SysIn X.base) {pins : List (Addr × Obj)} {s : Shared} {σ : Sl} {H : Hp} {φ : List Addr} {S : Sto} (I : Inv X pins σ H s) (sm : Sim X.K Γ φ S H) : ∀ {xs : List D} {vs : List V} {us : List Value} {ps : List PyData}, toPys (toPy S deep) xs = some ps → RelDs X.K H φ xs vs → Vals vs us →
    PySem.W.EachIs (StR X.K H φ s.heap) us (xs.zip ps) ∧ xs.length = ps.length
  | [], _, _, _, e, r, rv => by
    cases r
    cases rv
    unfold toPys at e
    cases e
    exact ⟨.nil, rfl⟩
  | x :: xs, _, _, _, e, r, rv => by
    cases r with
    | cons r1 r2 =>
      cases rv with
      | cons v1 v2 =>
        obtain ⟨p, q, rfl, h1, h2⟩ := toPys_cons e
        obtain ⟨as, z, _⟩ := reads_of hz I sm _ _ _ _ _ h1 r1 v1
        obtain ⟨t, hl⟩ := stR_list hz I sm h2 r2 v2
        exact ⟨.cons ⟨_, v1, r1, as, z⟩ t, by simp [hl]⟩
theorem stR_back {K : PySem.W.Frag} {H : Hp} {φ : List Addr} {h : Heap} : ∀ {us : List Value} {bs : List (D × PyData)}, PySem.W.EachIs (StR K H φ h) us bs → ∃ vs, Vals vs us ∧ RelDs K H φ (bs.map Prod.fst) vs
  | _, _, .nil => ⟨[], .nil, .nil⟩
  | _, _, .cons ⟨x, h1, h2, _⟩ t => by
    obtain ⟨vs, h3, h4⟩ := stR_back t
    exact ⟨x :: vs, .cons h1 h3, .cons h2 h4⟩
theorem sort_to (hz : SysIn X.base) (hu : X.A.units + 100 < cLine) {pins : List (Addr × Obj)} {s : Shared} {σ : Sl} {H : Hp} {φ : List Addr} {S : Sto} {Q : VK} {a : Addr} {xs ys : List D} {vs : List V} (I : Inv X pins σ H s) (sm : Sim X.K Γ φ S H) (hl : SqL X.K H a vs) (rd : RelDs X.K H φ xs vs) (hs : sortedL S xs = some ys)
    (p : Post X.K Γ E (rD X.K) φ H (newO (.lst ys) S) Q) : wpAny (model X.prog X.w) X.A (call (.builtin "sorted") [.ref a]) (EP X pins σ Q) X.xe s := by
  unfold sortedL at hs
  split at hs
  · rename_i ps hp
    by_cases hc : canSort ps = true ∧ xs.length ≤ sizeLine
    · rw [if_pos hc] at hs
      obtain rfl : sortL xs ps = ys := Option.some.inj hs
      obtain ⟨al, so, dp⟩ := canSort_of hc.1
      obtain ⟨its, rv, hli, hzl⟩ := I.list hl
      obtain ⟨ea, elen⟩ := stR_list hz I sm hp rd rv
      have hsn : (xs.zip ps).map Prod.snd = ps := List.map_snd_zip (by omega)
      have er : PySem.W.EachIs (fun v d => ∃ as, Reads s.heap v d as) its ps := by
        rw [← hsn]
        have : ∀ {us : List Value} {bs : List (D × PyData)}, PySem.W.EachIs (StR X.K H φ s.heap) us bs → PySem.W.EachIs (fun v d => ∃ as, Reads s.heap v d as) us (bs.map Prod.snd) := fun {us bs} h => by
          induction h with
          | nil => exact .nil
          | cons h1 _ ih => exact .cons (let ⟨_, _, _, z⟩ := h1; z) ih
        exact this ea
      have er2 : PySem.W.EachIs (fun v d => ∃ as, Reads (PySem.W.sortingHeap (PySem.W.copyHeap s.heap its) (s.heap.objs.size + 1) its) v d as) its ps :=
        er.mono fun v d ⟨as, r⟩ => ⟨as, Reads.keeps (fun b o e => PySem.W.sorting_copy_old e) r⟩
      have hlen : its.length = xs.length := by rw [← rv.length, ← RelDs.length rd]
      refine PySem.W.sorted_vals (κ := PySem.W.dataKind (PySem.W.sortingHeap (PySem.W.copyHeap s.heap its) (s.heap.objs.size + 1) its) ps) hli.isList (PySem.W.SortsAt.data er2 al so fun d hd => ?_) (by rw [hlen]; exact hc.2) ?_
      · have := dp d hd
        show X.A.units + 1 + 1 + d.depth < cLine
        omega
      · have eo := PySem.W.sortVals_each (κ := PySem.W.dataKind (PySem.W.sortingHeap (PySem.W.copyHeap s.heap its) (s.heap.objs.size + 1) its) ps) (rev := false) (fun b : D × PyData => PySem.W.keyToks b.2) ea (PySem.W.each_of_map Prod.snd (by rw [hsn]; exact PySem.W.each_keys al er2))
        obtain ⟨ws, r1, r2⟩ := stR_back eo
        obtain ⟨ep, he'⟩ := PyProof.Rows.sortedAll_at s.heap its (PySem.W.sortVals (PySem.W.dataKind (PySem.W.sortingHeap (PySem.W.copyHeap s.heap its) (s.heap.objs.size + 1) its) ps) false its its).toArray
        have hwl : ws.length ≤ sizeLine := by
          rw [r1.length, PySem.W.sortVals_length false rfl, hlen]
          exact hc.2
        refine ⟨.ref _, upd H (s.heap.objs.size + 1) (.lst ws), I.laid (t' := s.toks) (fun _ _ => PyProof.Rows.sortedAll_old) (Nat.le_succ _) ⟨hwl, _, ep, r1, he'⟩, rfl, ?_⟩
        exact Post.newL sm r2 p _ (I.hok.fresh (Nat.le_succ _))
    · rw [if_neg hc] at hs; cases hs
  · cases hs
theorem cd_sorted (hz : SysIn X.base) (hu : X.A.units + 100 < cLine) : CallD X Γ E (.builtin "sorted") sortedD := by
  intro pins s σ H xs us Q I rv ⟨φ, S, ds, sm, r, p⟩
  unfold sortedD at p
  split at p
  · obtain ⟨v, rfl, r1⟩ := rel1 r
    split at p
    · rename_i ys hy
      split at p
      · rename_i zs hs
        obtain ⟨a, vs, rfl, h1, h2⟩ := seqL_rel sm hy r1
        obtain ⟨u, rfl, ru⟩ := vals1 rv
        obtain rfl : u = Value.ref a := ru
        exact sort_to hz hu I sm h1 h2 hs p
      · exact p.elim
    · exact p.elim
  · exact p.elim
end

/-! while; str(i); a.partition(b) -/
open PySem PySem.Spec PyProof.Rows L2

def whileN (t : Env → M Bool) (b : Env → M Fl) : Nat → Env → M Fl
  | 0 => fun _ => stuck
  | n + 1 => fun r => t r >>= fun c => if c = true then (b r >>= fun f => match f with
    | .nx r2 => whileN t b n r2
    | .ct r2 => whileN t b n r2
    | .bk r2 => pure (.nx r2)
    | .rt d => pure (.rt d)) else pure (.nx r)
def wFuel : Nat := 1000000
def whileM (t : Env → M Bool) (b : Env → M Fl) : Env → M Fl := whileN t b wFuel
section
variable {X : Cx} {Γ : Nat → Addr} {E : XK} {c : Expr} {body : List Stmt} {mt : Env → M Bool} {mb : Env → M Fl} {pos : Pos}
theorem rs_while (hp : PassesOwn (model X.prog X.w) X.A X.env X.xe) (hc : RT X Γ E c mt) (hb : RSs X Γ E body mb) : RS X Γ E (.While c body [] pos) (whileM mt mb) := by
  refine PS.weaken (ps_while hp hc hb) fun D σ H ⟨φ, r, S, s, q, p⟩ => ?_
  refine ⟨fun n σ H => ∃ φ r S, Sim X.K Γ φ S H ∧ RelE X.K H φ r σ ∧ Post X.K Γ E (rF X.K) φ H (whileN mt mb n r S) (endQ D), ⟨wFuel, φ, r, S, s, q, p⟩, ?_⟩
  rintro n σ1 H1 ⟨φ1, r1, S1, s1, q1, p1⟩
  cases n with
  | zero => exact p1.elim
  | succ n =>
    unfold whileN at p1
    refine ⟨φ1, r1, S1, s1, q1, (Post.bnd (rel := rB) p1).imp fun b H2 ⟨φ2, S2, b', e2, s2, rb, p2⟩ => ?_⟩
    have eb : b' = b := rb
    subst eb
    have q2 := q1.mono e2
    cases b' with
    | false =>
      rw [if_neg Bool.false_ne_true] at p2 ⊢
      exact p2.val (v := FV.nx σ1) s2 (.nx q2)
    | true =>
      rw [if_pos rfl] at p2 ⊢
      refine ⟨fun σ' H' => ∃ φ r S, Sim X.K Γ φ S H' ∧ RelE X.K H' φ r σ' ∧ Post X.K Γ E (rF X.K) φ H' (whileN mt mb n r S) (endQ D), fun σ' H' h => ⟨n, Nat.lt_succ_self _, h⟩, ?_⟩
      refine ⟨φ2, r1, S2, s2, q2, (Post.bnd (rel := rF X.K) p2).imp fun fv H3 ⟨φ3, S3, f, e3, s3, rf, p3⟩ => ?_⟩
      cases rf with
      | nx q3 => exact ⟨φ3, _, S3, s3, q3, p3⟩
      | ct q3 => exact ⟨φ3, _, S3, s3, q3, p3⟩
      | bk q3 => exact p3.val (v := FV.nx _) s3 (.nx q3)
      | rt rv => exact p3.val (v := FV.rt _) s3 (.rt rv)
/-- str(i), str(x) -/
def strD : List D → M D
  | [.int i] => if i.natAbs.log2 < 1920 then pure (.str (toString i)) else stuck
  | [.str x] => pure (.str x)
  | _ => stuck
theorem cd_str : CallD X Γ E (.type "str") strD := by
  intro pins s σ H xs us Q I rv ⟨φ, S, ds, sm, r, p⟩
  unfold strD at p
  split at p
  · obtain ⟨v, rfl, r1⟩ := rel1 r
    cases r1
    obtain ⟨hz, p⟩ := Post.ite p
    exact call_str_int pins s σ H _ us Q I rv ⟨_, rfl, hz, p.val sm (.str _)⟩
  · obtain ⟨v, rfl, r1⟩ := rel1 r
    cases r1
    exact SkE.call_str_str pins s σ H _ us Q I rv ⟨_, rfl, p.val sm (.str _)⟩
  · exact p.elim
/-- a.partition(b) -/
def partitionD (o : D) (ds : List D) : M D := match o, ds with
  | .str a, [.str b] => if (b.length == 0) = false ∧ a.length ≤ sizeLine then pure (.tup [.str (Txt.partition a b).1, .str (Txt.partition a b).2.1, .str (Txt.partition a b).2.2]) else stuck
  | _, _ => stuck
theorem md_partition : MtD X Γ E "str.partition" partitionD := by
  intro pins s σ H x vs v us Q I rx rv ⟨φ, S, d, ds, sm, r1, r2, p⟩
  unfold partitionD at p
  split at p
  · obtain ⟨w, rfl, r3⟩ := relDs_one r2
    cases r1
    cases r3
    obtain ⟨hz, p⟩ := Post.ite p
    exact mt_partition pins s σ H _ _ v us Q I rx rv ⟨_, _, rfl, rfl, hz.1, hz.2, Post.newT sm (.cons (.str _) (.cons (.str _) (.cons (.str _) .nil))) p⟩
  · exact p.elim
end

/-! own exceptions as values: made, their field set and read, isinstance -/
open PySem PySem.Spec PyProof.Rows L2

/-- what the text must say of an own class over ValueError -/
structure XCls (K : PySem.W.Frag) (C : Addr) : Prop where
  oex : OexC K C
  xf : XfC K C
  cl : (PySem.W.clsIn K C).isSome = true
  ha : PySem.W.findIn K (.ref C) "__class__" = some (some (.builtin "object.__class__"))
  hn : PySem.W.specialIn K (.builtin "object.__class__") "__get__" = some (some (.builtin "getset_descriptor.__get__"))
  ht : PySem.W.takesIn K (.builtin "object.__class__") = some true
  hm : PySem.W.mroIn K C (.type "object") = some true
def NoF (K : PySem.W.Frag) (C : Addr) (f : Str) : Prop := PySem.W.findIn K (.ref C) f = some none
section
variable {K : PySem.W.Frag} {Γ : Nat → Addr} {φ : List Addr} {S : Sto} {H : Hp} {n c m : Nat} {a : Addr} {fs : List (Str × D)}
theorem sim_exo0 (s : Sim K Γ φ S H) (hq : φ[n]? = some a) (h : S[n]? = some (.exo c none)) : H a = some (exo a (Γ c) none) := by
  obtain ⟨dx, h1, h2⟩ := s.obj n _ _ h hq
  cases dx with
  | none => exact h1
  | some x => exact h2.elim
theorem sim_exo1 (s : Sim K Γ φ S H) (hq : φ[n]? = some a) (h : S[n]? = some (.exo c (some m))) : ∃ x, φ[m]? = some x ∧ H a = some (exo a (Γ c) (some x)) := by
  obtain ⟨dx, h1, h2⟩ := s.obj n _ _ h hq
  cases dx with
  | none => exact h2.elim
  | some x => exact ⟨x, h2, h1⟩
theorem sim_exd {x : Addr} (s : Sim K Γ φ S H) (hq : φ[m]? = some x) (h : S[m]? = some (.exd fs)) : ∃ vs, H x = some (exd x vs) ∧ RelKv K H φ fs vs := s.obj m _ _ h hq
end
/-! ### self.f = v, the first one -/
def xsetD (cs : List Nat) (f : Str) (o v : D) : M Unit := fun S => match o with
  | .ref n => match S[n]? with
    | some (.exo c none) => if c ∈ cs then .ok () ((S ++ [O.exd [(f, v)]]).set n (O.exo c (some S.length))) else .no
    | _ => .no
  | _ => .no
def xsetM (cs : List Nat) (f : Str) (mo mv : Env → M D) : Env → M Fl := fun r => mv r >>= fun v => mo r >>= fun o => xsetD cs f o v >>= fun _ => pure (.nx r)
section
variable {X : Cx} {Γ : Nat → Addr} {E : XK} {e o value : Expr} {mo mv : Env → M D} {f : Str} {pos pos' : Pos}
theorem rs_xset {cs : List Nat} (hc : ∀ c ∈ cs, OexC X.K (Γ c) ∧ NoF X.K (Γ c) f) (ho : RE X Γ E o mo) (hv : RE X Γ E value mv) (hs : swapsWith value (some (.Attribute o f pos')) pos.line X.env = pure false := by rfl) : RS X Γ E (.Assign [.Attribute o f pos'] value pos) (xsetM cs f mo mv) := by
  refine PS.weaken (ps_ost ho hv hs) fun D σ H ⟨φ, r, S, s, q, p⟩ => ?_
  refine tE_bnd s q p fun φ1 S1 dv y H1 e1 s1 q1 ry p1 => ?_
  refine tE_bnd s1 q1 p1 fun φ2 S2 d x H2 e2 s2 q2 rx p2 => ?_
  unfold xsetD at p2
  rw [bind_def] at p2
  cases d with
  | ref n =>
    cases rx with
    | @ref _ a hq =>
      cases hS : S2[n]? with
      | none => simp only [hS] at p2; exact p2.elim
      | some u =>
        cases u with
        | exo c m =>
          cases m with
          | none =>
            simp only [hS] at p2
            by_cases hz : c ∈ cs
            · rw [if_pos hz] at p2
              have h1 := sim_exo0 s2 hq hS
              refine ⟨a, Γ c, rfl, (hc c hz).1, (hc c hz).2, .inl ⟨h1, fun dx hdx ne => ?_⟩⟩
              have e3 : Ext X.K φ2 H2 (φ2 ++ [dx]) (upd H2 dx (exd dx [(f, y)])) := Ext.new hdx
              have s3 : Sim X.K Γ (φ2 ++ [dx]) (S2 ++ [O.exd [(f, dv)]]) (upd H2 dx (exd dx [(f, y)])) := s2.new hdx ⟨_, upd_same, .cons ⟨rfl, RelD.mono e3 _ _ (RelD.mono e2 _ _ ry)⟩ .nil⟩
              have hS3 : (S2 ++ [O.exd [(f, dv)]])[n]? = some (.exo c none) := by
                rw [List.getElem?_append_left (List.getElem?_eq_some_iff.mp hS).1]
                exact hS
              have hq3 : (φ2 ++ [dx])[n]? = some a := e3.toGr.get hq
              have mu : Mut (upd H2 dx (exd dx [(f, y)]) a) := by
                rw [upd_ne (Ne.symm ne), h1]
                exact True.intro
              have e4 : Ext X.K (φ2 ++ [dx]) (upd H2 dx (exd dx [(f, y)])) (φ2 ++ [dx]) (upd (upd H2 dx (exd dx [(f, y)])) a (exo a (Γ c) (some dx))) := Ext.mut mu hq3
              have hd : (φ2 ++ [dx])[S2.length]? = some dx := by rw [← s2.len, List.getElem?_append_right (Nat.le_refl _)]; simp
              have s4 : Sim X.K Γ (φ2 ++ [dx]) ((S2 ++ [O.exd [(f, dv)]]).set n (O.exo c (some S2.length))) (upd (upd H2 dx (exd dx [(f, y)])) a (exo a (Γ c) (some dx))) := s3.set hS3 hq3 ⟨some dx, upd_same, hd⟩
              exact p2 (φ2 ++ [dx]) _ (FV.nx σ) (e3.trans e4) s4 (.nx ((q2.mono e3).mono e4))
            · rw [if_neg hz] at p2; exact p2.elim
          | some _ => simp only [hS] at p2; exact p2.elim
        | lst _ => simp only [hS] at p2; exact p2.elim
        | dK _ => simp only [hS] at p2; exact p2.elim
        | dT _ => simp only [hS] at p2; exact p2.elim
        | ins _ _ => simp only [hS] at p2; exact p2.elim
        | exd _ => simp only [hS] at p2; exact p2.elim
  | _ => exact p2.elim
end
/-! ### L.__init__(self), L an own class without own __init__ over ValueError -/
def xinitD (cs : List Nat) (o : D) : M D := fun S => match o with
  | .ref n => match S[n]? with
    | some (.exo c none) => if c ∈ cs then .ok .non S else .no
    | _ => .no
  | _ => .no
def xinitM (cs : List Nat) (mo : Env → M D) : Env → M D := fun r => mo r >>= xinitD cs
section
variable {X : Cx} {Γ : Nat → Addr} {E : XK} {e : Expr} {te : TE} {mo : Env → M D} {x : Str} {L : Addr} {mc : Value} {pos p1 p2 : Pos}
theorem pe_xinit {pl : Sem Bool} (hg : Gl X x) (gL : X.mg x = some (.ref L)) (rd : ClX.CRead X.K L mc) (at_ : PySem.W.findCls X.K (.ref L) mc "__init__" = some (.val (.builtin "ValueError.__init__"))) (he : PE X e te) (hdb : (x == ("__debug__" : Str)) = false := by decide)
    (h1 : starEach [e] X.env = (false, eval e X.env) :: starEach [] X.env := by rfl) (h2 : (backTo pos (starEach [] X.env)).any (·.1) = false := by rfl)
    (h3 : eval (.Call (.Attribute (.Name x p1) "__init__" p2) [e] [] pos) X.env = (do
      let ov ← eval (.Name x p1) X.env
      standAt p2.atName
      let (g, first) ← holding [ov] (getMethod ov "__init__" pl)
      callWith pos g first (backTo pos (starEach [e] X.env)) (backToKw pos (keywordEach [] X.env))) := by rfl) :
    PE X (.Call (.Attribute (.Name x p1) "__init__" p2) [e] [] pos) (fun σ H Q => te σ H fun v H1 => ∃ a C : Addr, v = .ref a ∧ OexC X.K C ∧ H1 a = some (exo a C none) ∧ Q .non H1) := by
  refine ⟨fun pins s σ H Q I h => ?_⟩
  refine PySem.W.methodCall_KW (pl := pl) (ld_glob I hg gL ?_ hdb) h3
  refine PySem.W.method_cls I.kIn rd.ga (PySem.W.cls_value I.kIn rd.rd at_ rfl ?_)
  show wpAny _ _ (callWith pos (Value.builtin "ValueError.__init__") [] (backTo pos (starEach [e] X.env)) []) _ _ _
  have ha : PA X [e] (tCons te tNil) := pa_cons he pa_nil h1
  refine PyProof.Rows.callWith_method1 (thn (ha.run pos pins _ σ H (fun vs H1 => match vs with
    | [v] => ∃ a C : Addr, v = .ref a ∧ OexC X.K C ∧ H1 a = some (exo a C none) ∧ Q .non H1
    | _ => False) (I.tok _) h) fun us s1 ⟨vs, H1, I1, r1, q⟩ => ?_) h1 h2
  cases r1 with
  | nil => exact q.elim
  | @cons _ u0 _ ur ra rw' =>
    cases rw' with
    | cons _ _ => exact q.elim
    | nil =>
      obtain ⟨a, C, ev, T, ea, q⟩ := q
      subst ev
      obtain rfl : u0 = Value.ref a := ra
      exact oinit_ok T I1 ea (by show 0 ≤ _; exact Nat.zero_le _) fun s' J => ⟨.non, H1, J, rfl, q⟩
theorem re_xinit {pl : Sem Bool} {cs : List Nat} (hc : ∀ c ∈ cs, OexC X.K (Γ c)) (hg : Gl X x) (gL : X.mg x = some (.ref L)) (rd : ClX.CRead X.K L mc) (at_ : PySem.W.findCls X.K (.ref L) mc "__init__" = some (.val (.builtin "ValueError.__init__"))) (he : RE X Γ E e mo) (hdb : (x == ("__debug__" : Str)) = false := by decide)
    (h1 : starEach [e] X.env = (false, eval e X.env) :: starEach [] X.env := by rfl) (h2 : (backTo pos (starEach [] X.env)).any (·.1) = false := by rfl)
    (h3 : eval (.Call (.Attribute (.Name x p1) "__init__" p2) [e] [] pos) X.env = (do
      let ov ← eval (.Name x p1) X.env
      standAt p2.atName
      let (g, first) ← holding [ov] (getMethod ov "__init__" pl)
      callWith pos g first (backTo pos (starEach [e] X.env)) (backToKw pos (keywordEach [] X.env))) := by rfl) :
    RE X Γ E (.Call (.Attribute (.Name x p1) "__init__" p2) [e] [] pos) (xinitM cs mo) := by
  refine PE.weaken (pe_xinit hg gL rd at_ he hdb h1 h2 h3) fun σ H Q ⟨φ, r, S, s, q, p⟩ => ?_
  refine tE_bnd s q p fun φ1 S1 d v H1 e1 s1 q1 rv p1 => ?_
  unfold xinitD at p1
  cases d with
  | ref n =>
    cases rv with
    | @ref _ a hq =>
      cases hS : S1[n]? with
      | none => simp only [hS] at p1; exact p1.elim
      | some u =>
        cases u with
        | exo c m =>
          cases m with
          | none =>
            simp only [hS] at p1
            by_cases hz : c ∈ cs
            · rw [if_pos hz] at p1
              exact ⟨a, Γ c, rfl, hc c hz, sim_exo0 s1 hq hS, p1.here s1 .non⟩
            · rw [if_neg hz] at p1; exact p1.elim
          | some _ => simp only [hS] at p1; exact p1.elim
        | lst _ => simp only [hS] at p1; exact p1.elim
        | dK _ => simp only [hS] at p1; exact p1.elim
        | dT _ => simp only [hS] at p1; exact p1.elim
        | ins _ _ => simp only [hS] at p1; exact p1.elim
        | exd _ => simp only [hS] at p1; exact p1.elim
  | _ => exact p1.elim
end
/-! ### C(e, ..), C's own __init__ -/
def mkxM (c : Nat) (mi : List D → M D) : List D → M D := fun ds S => match mi (.ref S.length :: ds) (S ++ [.exo c none]) with
  | .ok .non S' => .ok (.ref S.length) S'
  | .ok _ _ => .no
  | .err c' fs S' => .err c' fs S'
  | .no => .no
section
variable {X : Cx} {Γ : Nat → Addr} {E : XK} {e : Expr} {es : List Expr} {mA : Env → M (List D)} {CX : CXT} {k n c : Nat} {f C : Addr} {fd : FuncData} {ps : List Str} {sp : Sp} {x : Str} {p pos : Pos} {t : TA} {mi : List D → M D}
theorem run_makeX {pins : List (Addr × Obj)} {σ : Sl} {H : Hp} {s : Shared} {Q : VK} {us : List Value} {vs : List V} (T : OexC X.K C) (iC : PySem.W.findIn X.K (.ref C) "__init__" = some (some (.ref f))) (tI : PySem.W.typeIn X.K (.ref f) = some (.type "function"))
    (F : FnG X.prog X.w X.K X.mg X.base CX k f fd ps sp) (hq : Quiet X.A) (hr : Room (k + 1) X.A) (hb : Binds X.K fd ps [])
    (hx : Passes CX X E) (I : Inv X pins σ H s) (r : Vals vs us) (hl : vs.length ≤ 1000) (h : ∀ y, H y = none → sp (.ref y :: vs) (upd H y (exo y C none)) (fun v H2 => v = .non ∧ Q (.ref y) H2) E) :
    wpAny (model X.prog X.w) X.A (call (.ref C) us) (EP X pins σ Q) X.xe s := by
  obtain ⟨nm, q, N, bs, bm, sn, sub, ab, col, dd, k0, k1, k2, k3, k5, hC, hbm⟩ := T.cls
  obtain ⟨hp, g, dr, tk, os⟩ := s
  have hsz : hp.objs.size ≤ hp.objs.size + 1 := Nat.le_succ _
  have hn : H (hp.objs.size + 1) = none := I.hok.fresh hsz
  have z := h (hp.objs.size + 1) hn
  have kk : ∀ b o, hp.get? b = some o → ((hp.push (PySem.W.kdv_tup us)).push (PySem.HandSPX.excO C hp.objs.size)).get? b = some o := fun b o e => Heap.get?_push_of_some _ (Heap.get?_push_of_some _ e)
  have hget : ((hp.push (PySem.W.kdv_tup us)).push (PySem.HandSPX.excO C hp.objs.size)).get? (hp.objs.size + 1) = some (PySem.HandSPX.excO C hp.objs.size) := by heap_get
  have J : Inv X pins σ (upd H (hp.objs.size + 1) (exo (hp.objs.size + 1) C none)) ⟨(hp.push (PySem.W.kdv_tup us)).push (PySem.HandSPX.excO C hp.objs.size), g, dr, tk, os⟩ :=
    I.laid (t' := tk) (a := hp.objs.size + 1) (o := exo (hp.objs.size + 1) C none) (h' := (hp.push (PySem.W.kdv_tup us)).push (PySem.HandSPX.excO C hp.objs.size)) kk hsz (exo_ok hget)
  have rr : Vals (V.ref (hp.objs.size + 1) :: vs) (Value.ref (hp.objs.size + 1) :: us) := .cons rfl r
  have hz : (Value.ref (hp.objs.size + 1) :: us).length = ps.length := by
    rw [← F.few _ _ _ _ z]
    exact rr.length.symm
  have hus : us.length ≤ sizeLine := by
    rw [← Paired.length r, sizeLine_eq]
    omega
  have b := hb _ (Value.ref (hp.objs.size + 1) :: us) J.kIn (by simpa using hz)
  rw [List.append_nil] at b
  have go := F.go (X.A.under (.builtin "type.__call__" ⟨.ref C :: us, []⟩)) X.stack _ _ ⟨Value.ref (hp.objs.size + 1) :: us, []⟩
    (Value.ref (hp.objs.size + 1) :: us) _ _ E hq (hr.make C us []) (J.env0.make C us []) b rr z
  refine wpAny_call (PySem.HandSPX.call_own PySem.F.excBase_ValueError (fun Y => PySem.HandSPX.refsVE_contains Y bm hbm) (I.kIn _ _ hC) (PySem.W.looks_findIn I.kIn iC) (fun self => PySem.W.bind_fn I.kIn self tI) hus
    (codeAny_mono go fun res s' q => ?_))
  match res, q with
  | .error ev, q => exact hx pins σ _ _ ev s' J q
  | .ok (.ret u), q =>
    obtain ⟨v, H', J', rv, ev, q3⟩ := J.after q
    subst ev
    exact ⟨rv, V.ref (hp.objs.size + 1), H', J', rfl, q3⟩
theorem makeX_to {K : PySem.W.Frag} {φ : List Addr} {S : Sto} {H : Hp} {Q : VK} {l : List D} {vs : List V} (hl : l.length + 1 = n) (s : Sim K Γ φ S H) (rv : RelDs K H φ l vs) (p : Post K Γ E (rD K) φ H (mkxM c mi l S) Q) {y : Addr} (h1 : H y = none) :
    spM K Γ n mi (.ref y :: vs) (upd H y (exo y (Γ c) none)) (fun v H2 => v = .non ∧ Q (.ref y) H2) E := by
  have e : Ext K φ H (φ ++ [y]) (upd H y (exo y (Γ c) none)) := Ext.new h1
  have s2 : Sim K Γ (φ ++ [y]) (S ++ [.exo c none]) (upd H y (exo y (Γ c) none)) := s.new h1 ⟨none, upd_same, True.intro⟩
  have hn : (φ ++ [y])[S.length]? = some y := by rw [← s.len, List.getElem?_append_right (Nat.le_refl _)]; simp
  refine ⟨by rw [List.length_cons, ← RelDs.length rv]; exact hl, φ ++ [y], S ++ [.exo c none], .ref S.length :: l, s2, .cons (.ref hn) (RelDs.mono e _ _ rv), ?_⟩
  unfold mkxM at p
  cases hm : mi (.ref S.length :: l) (S ++ [.exo c none]) with
  | ok d S' =>
    cases d with
    | non =>
      simp only [hm] at p
      intro φ' H' v e' s' r
      cases r
      exact ⟨rfl, p φ' H' (.ref y) (e.trans e') s' (.ref (e'.toGr.get hn))⟩
    | _ => simp only [hm] at p; exact p.elim
  | err c' fs S' =>
    simp only [hm] at p
    exact fun φ' H' dx' e' s' x' => p φ' H' dx' (e.trans e') s' x'
  | no => simp only [hm] at p; exact p.elim
def tMakeX (C : Addr) (sp : Sp) (E : XK) (t : TA) : TE := fun σ H Q => t σ H fun vs H1 => vs.length ≤ 1000 ∧ ∀ y, H1 y = none → sp (.ref y :: vs) (upd H1 y (exo y C none)) (fun v H2 => v = .non ∧ Q (.ref y) H2) E
theorem pe_makeX (T : OexC X.K C) (iC : PySem.W.findIn X.K (.ref C) "__init__" = some (some (.ref f))) (tI : PySem.W.typeIn X.K (.ref f) = some (.type "function")) (F : FnG X.prog X.w X.K X.mg X.base CX k f fd ps sp) (hq : Quiet X.A) (hr : Room (k + 1) X.A) (hg : Gl X x) (hm : X.mg x = some (.ref C)) (hb : Binds X.K fd ps []) (hx : Passes CX X E)
    (ha : PA X (e :: es) t) (hdb : (x == ("__debug__" : Str)) = false := by decide) (h1 : starEach (e :: es) X.env = (false, eval e X.env) :: starEach es X.env := by rfl) (h2 : (backTo pos (starEach es X.env)).any (·.1) = false := by rfl) :
    PE X (.Call (.Name x p) (e :: es) [] pos) (tMakeX C sp E t) := by
  refine ⟨fun pins s σ H Q I h => wpAny_Call_Name_kw (ld_glob I hg hm ?_ hdb)⟩
  refine PySem.W.callWith_K (h₀ := X.base) I.ok.mod.kin T.kC (thn (ha.run pos pins s σ H _ I h) ?_) h1 h2
  rintro us s1 ⟨vs, H1, I1, r, hl, q⟩
  exact ⟨I1.kIn, run_makeX T iC tI F hq hr hb hx I1 r hl q⟩
theorem re_makeX (T : OexC X.K (Γ c)) (iC : PySem.W.findIn X.K (.ref (Γ c)) "__init__" = some (some (.ref f))) (tI : PySem.W.typeIn X.K (.ref f) = some (.type "function")) (F : FnG X.prog X.w X.K X.mg X.base CX k f fd ps (spM X.K Γ n mi)) (hq : Quiet X.A) (hr : Room (k + 1) X.A) (hg : Gl X x) (hm : X.mg x = some (.ref (Γ c))) (hb : Binds X.K fd ps []) (hx : Passes CX X E)
    (ha : RA X Γ E (e :: es) mA) (hl : ∀ r S ds S', mA r S = .ok ds S' → ds.length + 1 = n) (hn : n ≤ 1000) (hdb : (x == ("__debug__" : Str)) = false := by decide) (h1 : starEach (e :: es) X.env = (false, eval e X.env) :: starEach es X.env := by rfl) (h2 : (backTo pos (starEach es X.env)).any (·.1) = false := by rfl) :
    RE X Γ E (.Call (.Name x p) (e :: es) [] pos) (clM (mkxM c mi) mA) := by
  refine PE.weaken (pe_makeX T iC tI F hq hr hg hm hb hx ha hdb h1 h2) fun σ H Q ⟨φ, r, S, s, q, p⟩ => ?_
  have p' : Post X.K Γ E (rD X.K) φ H ((mA r >>= mkxM c mi) S) Q := p
  refine ⟨φ, r, S, s, q, ?_⟩
  cases hm2 : mA r S with
  | ok ds S1 =>
    rw [bnd_ok hm2] at p'
    intro φ1 H1 vs e1 s1 rv
    refine ⟨?_, fun y z1 => makeX_to (hl r S ds S1 hm2) s1 rv (p'.mono e1) z1⟩
    have := hl r S ds S1 hm2
    rw [← RelDs.length rv]
    omega
  | err c' fs S1 => rw [bind_def, hm2] at p'; exact p'
  | no => rw [bind_def, hm2] at p'; exact p'
end
/-! ### C(), C without own __init__ -/
def mkx0M (c : Nat) : Env → M D := fun _ S => .ok (.ref S.length) (S ++ [.exo c none])
section
variable {X : Cx} {Γ : Nat → Addr} {E : XK} {C : Addr} {bmB : List Value} {B newId initId : String} {x : Str} {c : Nat} {p pos : Pos}
theorem pe_mkx0 (F : ExcBaseFacts B newId initId bmB) (q : PySem.W.excIn X.K C bmB newId = true) (gC : X.mg x = some (.ref C)) (kC : PySem.W.keepIn X.K (.ref C) = true) (hg : Gl X x) (hdb : (x == ("__debug__" : Str)) = false := by decide) :
    PE X (.Call (.Name x p) [] [] pos) (fun σ H Q => ∀ a, H a = none → Q (.ref a) (upd H a (exo a C none))) := by
  refine ⟨fun pins s σ H Q I h => ?_⟩
  refine wpAny_Call_Name_kw (ld_glob I hg gC ?_ hdb)
  refine PySem.W.callWith_K0 (first := []) I.kIn kC ?_
  show wpAny _ _ (call (.ref C) []) _ _ _
  obtain ⟨bm, N, nm, qn, bs, hdct, sn, sub, ab, col, dd, k0, k1, k2, k3, k5, mN, hC, hN, hni, T⟩ := exc_obj I.kIn q
  refine wpAny_call_exc_subT F T hC hN hni (fun h' a hm => ?_) (by show 0 ≤ sizeLine; exact Nat.zero_le _)
  have hn : H a = none := I.hok.gone hm.new
  obtain ⟨t, ht, _, _⟩ := hm.there
  exact ⟨.ref a, upd H a (exo a C none), I.laidN hm.keeps hm.new hn (exo_ok ht), rfl, h a hn⟩
theorem re_mkx0 (F : ExcBaseFacts B newId initId bmB) (q : PySem.W.excIn X.K (Γ c) bmB newId = true) (gC : X.mg x = some (.ref (Γ c))) (kC : PySem.W.keepIn X.K (.ref (Γ c)) = true) (hg : Gl X x) (hdb : (x == ("__debug__" : Str)) = false := by decide) :
    RE X Γ E (.Call (.Name x p) [] [] pos) (mkx0M c) := by
  refine PE.weaken (pe_mkx0 F q gC kC hg hdb) fun σ H Q ⟨φ, r, S, s, q, p⟩ => fun y hy => ?_
  have e : Ext X.K φ H (φ ++ [y]) (upd H y (exo y (Γ c) none)) := Ext.new hy
  have s2 : Sim X.K Γ (φ ++ [y]) (S ++ [.exo c none]) (upd H y (exo y (Γ c) none)) := s.new hy ⟨none, upd_same, True.intro⟩
  have hn : (φ ++ [y])[S.length]? = some y := by rw [← s.len, List.getElem?_append_right (Nat.le_refl _)]; simp
  exact p (φ ++ [y]) (upd H y (exo y (Γ c) none)) (.ref y) e s2 (.ref hn)
end
/-! ### e.f -/
def xfldD (cs : List Nat) (f : Str) (d : D) : M D := fun S => match d with
  | .ref n => match S[n]? with
    | some (.exo c (some m)) => if c ∈ cs then (match S[m]? with
      | some (.exd fs) => (match fs.lookup f with
        | some v => .ok v S
        | none => .no)
      | _ => .no) else .no
    | _ => .no
  | _ => .no
def xfldM (cs : List Nat) (f : Str) (m : Env → M D) : Env → M D := fun r => m r >>= xfldD cs f
section
variable {X : Cx} {Γ : Nat → Addr} {E : XK} {e : Expr} {te : TE} {m : Env → M D} {f : Str} {pos p pT : Pos}
theorem exo_inst {pins : List (Addr × Obj)} {σ : Sl} {H : Hp} {s : Shared} {a C dx : Addr} {fs : List (Str × V)} (T : XfC X.K C) (I : Inv X pins σ H s) (ha : H a = some (exo a C (some dx))) (hd : H dx = some (exd dx fs)) :
    ∃ (ox od : Obj), PySem.W.InstAt s.heap a ox C (some od) ∧ ∃ mA : Str → Option Value, (∀ n : Str, PySem.W.lookIn n od = some (mA n)) ∧ ∀ f, L2.RelO (fs.lookup f) (mA f) := by
  obtain ⟨t1, h1⟩ := exo_at I.hok ha
  obtain ⟨mA, hns, hr⟩ := exd_at I.hok hd
  obtain ⟨od, ho, hl⟩ := lookIn_ns hns
  exact ⟨_, od, ⟨h1, rfl, rfl, ho⟩, mA, hl, hr⟩
theorem pe_xfa (he : PE X e te) (hb : attributeBase e f X.env (eval e X.env) = eval e X.env := by rfl) :
    PE X (.Attribute e f pos) (fun σ H Q => te σ H fun x H1 => ∃ (a C dx : Addr) (fs : List (Str × V)) (v : V), x = .ref a ∧ XfC X.K C ∧ NoF X.K C f ∧ H1 a = some (exo a C (some dx)) ∧ H1 dx = some (exd dx fs) ∧ fs.lookup f = some v ∧ Q v H1) := by
  refine ⟨fun pins s σ H Q I h => ?_⟩
  refine attr_of hb (thn (he.run pins s σ H _ I h) fun u s1 hh => ?_)
  obtain ⟨x, H1, I1, rx, a, C, dx, fs, v, ex, T, hno, ha, hd, l, q⟩ := hh
  subst ex
  obtain rfl : u = Value.ref a := rx
  obtain ⟨ox, od, J, mA, hl, hr⟩ := exo_inst T I1 ha hd
  obtain ⟨u, hu, ru⟩ := RelO.some_of (v := v) (o := mA f) (by rw [← l]; exact hr f)
  exact HandSPX.exc_get I1.kIn J T.ga T.gg T.exC (PySem.W.findObj_own T.hdC hno rfl (by rw [hl, hu])) (handed_of ru) ⟨v, H1, I1.tok _, ru, q⟩
theorem re_xfld {cs : List Nat} (hc : ∀ c ∈ cs, XfC X.K (Γ c) ∧ NoF X.K (Γ c) f) (he : RE X Γ E e m) (hb : attributeBase e f X.env (eval e X.env) = eval e X.env := by rfl) : RE X Γ E (.Attribute e f pos) (xfldM cs f m) := by
  refine PE.weaken (pe_xfa he hb) fun σ H Q ⟨φ, r, S, s, q, p⟩ => ?_
  refine tE_bnd s q p fun φ1 S1 d v H1 e1 s1 q1 rv p1 => ?_
  unfold xfldD at p1
  cases d with
  | ref n =>
    cases rv with
    | @ref _ a hq =>
      cases hS : S1[n]? with
      | none => simp only [hS] at p1; exact p1.elim
      | some u =>
        cases u with
        | exo c m =>
          cases m with
          | none => simp only [hS] at p1; exact p1.elim
          | some m =>
            simp only [hS] at p1
            by_cases hz : c ∈ cs
            · rw [if_pos hz] at p1
              obtain ⟨dx, hm, h1⟩ := sim_exo1 s1 hq hS
              cases hS2 : S1[m]? with
              | none => simp only [hS2] at p1; exact p1.elim
              | some w =>
                cases w with
                | exd fs =>
                  simp only [hS2] at p1
                  obtain ⟨vs, h2, hv⟩ := sim_exd s1 hm hS2
                  cases hl : fs.lookup f with
                  | none => simp only [hl] at p1; exact p1.elim
                  | some d' =>
                    simp only [hl] at p1
                    obtain ⟨w, h3, h4⟩ := (relKv_lookup hv).1 d' hl
                    exact ⟨a, Γ c, dx, vs, w, rfl, (hc c hz).1, (hc c hz).2, h1, h2, h3, p1.here s1 h4⟩
                | _ => simp only [hS2] at p1; exact p1.elim
            · rw [if_neg hz] at p1; exact p1.elim
        | lst _ => simp only [hS] at p1; exact p1.elim
        | dK _ => simp only [hS] at p1; exact p1.elim
        | dT _ => simp only [hS] at p1; exact p1.elim
        | ins _ _ => simp only [hS] at p1; exact p1.elim
        | exd _ => simp only [hS] at p1; exact p1.elim
  | _ => exact p1.elim
/-! ### isinstance(e, C) -/
def isxD (an : Nat → Option Bool) (d : D) : M D := fun S => match d with
  | .ref n => match S[n]? with
    | some (.exo c _) => (match an c with
      | some b => .ok (.bl b) S
      | none => .no)
    | _ => .no
  | _ => .no
def isxM (an : Nat → Option Bool) (m : Env → M D) : Env → M D := fun r => m r >>= isxD an
def rIsX (X : Cx) : List V → Hp → VK → Prop := fun xs H Q => ∃ (a C : Addr) (dx : Option Addr) (c : V) (cv : Value) (b : Bool), xs = [.ref a, c] ∧ (∀ u, RelV c u → u = cv) ∧ XCls X.K C ∧ H a = some (exo a C dx) ∧ (∀ x, dx = some x → ∃ o, H x = some o) ∧ PySem.W.kitOne X.K (.ref C) cv = some b ∧ Q (.bl b) H
theorem call_isX : CallR X (.builtin "isinstance") (rIsX X) := by
  intro pins s σ H xs us Q I r h
  obtain ⟨a, C, dx, c, cv, b, rfl, hcv, T, ha, hd, e, q⟩ := h
  cases r with
  | cons rx rr =>
    cases rr with
    | cons rt rr =>
      cases rr
      cases rx
      have ec := hcv _ rt
      subst ec
      obtain ⟨t1, h1⟩ := exo_at I.hok ha
      have J : ∃ od, PySem.W.InstAt s.heap a ({ cls := .ref C, dict := dx, data := .fields #[.ref t1, .none, .none, .none, .bool false, .none] } : Obj) C od := by
        cases dx with
        | none => exact ⟨none, h1, rfl, rfl, trivial⟩
        | some x =>
          obtain ⟨o, ho⟩ := hd x rfl
          obtain ⟨u, hu⟩ := objOk_get (I.hok x o ho)
          exact ⟨some u, h1, rfl, rfl, hu⟩
      obtain ⟨od, J⟩ := J
      exact PySem.W.kia_one (PySem.W.kitx_exc T.cl T.xf.ga T.xf.gg T.xf.exC T.ha T.hn T.ht T.hm) I.kIn J e (fun z => nomatch z) fun tk => ⟨.bl b, H, I.kept (t' := tk) fun _ _ z => z, rfl, q⟩
theorem isx_to {cv : Value} {c : V} {an : Nat → Option Bool} (hcv : ∀ u, RelV c u → u = cv) (han : ∀ n b, an n = some b → XCls X.K (Γ n) ∧ PySem.W.kitOne X.K (.ref (Γ n)) cv = some b) {φ : List Addr} {r : Env} {S : Sto} {σ : Sl} {H : Hp} {Q : VK} (s : Sim X.K Γ φ S H) (q : RelE X.K H φ r σ)
    (p : Post X.K Γ E (rD X.K) φ H (isxM an m r S) Q) : tE X.K Γ E m σ H fun v H1 => rIsX X [v, c] H1 Q := by
  refine tE_bnd s q p fun φ1 S1 d v H1 e1 s1 q1 rv p1 => ?_
  unfold isxD at p1
  cases d with
  | ref n =>
    cases rv with
    | @ref _ a hq =>
      cases hS : S1[n]? with
      | none => simp only [hS] at p1; exact p1.elim
      | some u =>
        cases u with
        | exo c' m =>
          simp only [hS] at p1
          cases hA : an c' with
          | none => simp only [hA] at p1; exact p1.elim
          | some b =>
            simp only [hA] at p1
            obtain ⟨T, k⟩ := han c' b hA
            cases m with
            | none => exact ⟨a, Γ c', none, c, cv, b, rfl, hcv, T, sim_exo0 s1 hq hS, fun x z => (by cases z), k, p1.here s1 (.bl b)⟩
            | some m =>
              obtain ⟨dx, hm, h1⟩ := sim_exo1 s1 hq hS
              refine ⟨a, Γ c', some dx, c, cv, b, rfl, hcv, T, h1, fun x z => ?_, k, p1.here s1 (.bl b)⟩
              cases z
              obtain ⟨u, hu, _⟩ := s1.stands (List.mem_of_getElem? hm)
              exact ⟨u, hu⟩
        | lst _ => simp only [hS] at p1; exact p1.elim
        | dK _ => simp only [hS] at p1; exact p1.elim
        | dT _ => simp only [hS] at p1; exact p1.elim
        | ins _ _ => simp only [hS] at p1; exact p1.elim
        | exd _ => simp only [hS] at p1; exact p1.elim
  | _ => exact p1.elim
/-- isinstance(e, C), C an own class -/
theorem re_isx {an : Nat → Option Bool} {x : Str} {C : Addr} (han : ∀ n b, an n = some b → XCls X.K (Γ n) ∧ PySem.W.kitOne X.K (.ref (Γ n)) (.ref C) = some b) (he : RE X Γ E e m) (hg : Gl X "isinstance") (hm : X.mg "isinstance" = none) (hgT : Gl X x) (hmT : X.mg x = some (.ref C)) (hdb : (x == ("__debug__" : Str)) = false := by decide)
    (h1 : starEach [e, .Name x pT] X.env = (false, eval e X.env) :: starEach [.Name x pT] X.env := by rfl) (h2 : (backTo pos (starEach [.Name x pT] X.env)).any (·.1) = false := by rfl)
    (h3 : starEach [.Name x pT] X.env = [(false, eval (.Name x pT) X.env)] := by rfl) : RE X Γ E (.Call (.Name "isinstance" p) [e, .Name x pT] [] pos) (isxM an m) := by
  have hb : PE X (.Name x pT) (tC (.ref C)) := pe_glob hgT hmT rfl hdb
  refine PE.weaken (pe_callB call_isX hg hm (by decide +kernel) (pa_cons he (pa_cons hb pa_nil h3) h1) (by decide) (by decide) h1 h2) fun σ H Q ⟨φ, r, S, s, q, p⟩ => ?_
  exact isx_to (c := .ref C) (cv := .ref C) (fun u ru => ru) han s q p
/-- isinstance(e, T), T a built-in class -/
theorem re_isxT {an : Nat → Option Bool} {x : Str} {T : String} (han : ∀ n b, an n = some b → XCls X.K (Γ n) ∧ PySem.W.kitOne X.K (.ref (Γ n)) (.type T) = some b) (he : RE X Γ E e m) (hg : Gl X "isinstance") (hm : X.mg "isinstance" = none) (hgT : Gl X x) (hmT : X.mg x = none) (hbt : bootBuiltins x = some (.type T)) (hxn : x ≠ "__name__" := by decide) (hdb : (x == ("__debug__" : Str)) = false := by decide)
    (h1 : starEach [e, .Name x pT] X.env = (false, eval e X.env) :: starEach [.Name x pT] X.env := by rfl) (h2 : (backTo pos (starEach [.Name x pT] X.env)).any (·.1) = false := by rfl)
    (h3 : starEach [.Name x pT] X.env = [(false, eval (.Name x pT) X.env)] := by rfl) : RE X Γ E (.Call (.Name "isinstance" p) [e, .Name x pT] [] pos) (isxM an m) := by
  have hb : PE X (.Name x pT) (tC (.ty T)) := pe_bltn hgT hmT hbt rfl hxn hdb
  refine PE.weaken (pe_callB call_isX hg hm (by decide +kernel) (pa_cons he (pa_cons hb pa_nil h3) h1) (by decide) (by decide) h1 h2) fun σ H Q ⟨φ, r, S, s, q, p⟩ => ?_
  exact isx_to (c := .ty T) (cv := .type T) (fun u ru => ru) han s q p
end

/-! own exceptions: the text's facts of their classes, by names -/
open PySem PySem.Spec PyProof.Rows L2

def clsBody : Stmt → List Stmt
  | .ClassDef _ _ _ b _ _ _ _ _ _ _ => b
  | _ => []
def clsAt (st : Stmt) (j : Nat) : Stmt := (clsBody st).getD j (.Pass ⟨0, 0, 0, 0⟩)
structure InitOk (K : PySem.W.Frag) (C : Addr) (qual : Str) (st : Stmt) (ps : List Str) : Prop where
  ex : ∃ (f : Addr) (fd : FuncData), Fun K "__init__" qual st f fd ∧ PySem.W.findIn K (.ref C) "__init__" = some (some (.ref f)) ∧ PySem.W.typeIn K (.ref f) = some (.type "function") ∧ Binds K fd ps []
theorem init_mk {K : PySem.W.Frag} {C : Addr} {qual : Str} {st : Stmt} {ps : List Str} {f : Addr} {od an : Option Addr} {sl : Array (Option Value)} {oc kV dc pm cd ct : Value} (a : PySem.W.findIn K (.ref C) "__init__" = some (some (.ref f))) (ty : PySem.W.typeIn K (.ref f) = some (.type "function"))
    (l : K.lookup f = some ⟨oc, od, .func (PySem.W.fnOf "__init__" qual (defArgs st) (defBody st) (defScope st) .none kV dc pm an cd ct), sl⟩) (c : PySem.W.codeIn K cd qual = true) (k : PySem.W.keepIn K (.ref f) = true)
    (hb : ∀ (kV doc pm : Value) (an : Option Addr) (cdv ct : Value) (us : List Value), us.length = ps.length → bindArgs (PySem.W.fnOf "__init__" qual (defArgs st) (defBody st) (defScope st) .none kV doc pm an cdv ct) ⟨us, []⟩ = pure (ps.zip us)) : InitOk K C qual st ps :=
  have F := fun_mk (st := st) l c k
  ⟨⟨f, _, F, a, ty, F.binds hb⟩⟩
structure CalleeX (P : Program) (w : World) (K : PySem.W.Frag) (mg : Str → Option Value) (base : Heap) (Γ : Nat → Addr) (k : Nat) (c : Nat) (n : Nat) (mf : List D → M D) : Prop where
  ex : ∃ (f : Addr) (fd : FuncData) (ps : List Str), FnG P w K mg base CX0 k f fd ps (spM K Γ n mf) ∧ PySem.W.findIn K (.ref (Γ c)) "__init__" = some (some (.ref f)) ∧ PySem.W.typeIn K (.ref f) = some (.type "function") ∧ Binds K fd ps []
section
variable {P : Program} {w : World} {K : PySem.W.Frag} {mg : Str → Option Value} {base : Heap} {Γ : Nat → Addr} {k c : Nat} {qual : Str} {st : Stmt} {N ps : List Str}
theorem calleeX_mk {m : Env → M Fl} (D : InitOk K (Γ c) qual st ps) (sc : FnScope N ps (defScope st))
    (hbody : ∀ (f : Addr) (cdv : Value) (A : Around) (fr : List PySem.Env) (s : Shared) (H : Hp) (E : XK), Quiet (A.deeper (envOfC qual (defScope st) s.heap.objs.size f cdv)) → Room k (A.deeper (envOfC qual (defScope st) s.heap.objs.size f cdv)) → RSs (cxOf CX0 P w K mg base N qual (defScope st) f cdv A fr s H E).nox Γ E (defBody st) m) :
    CalleeX P w K mg base Γ (k + 1) c ps.length (fnM N.length m) := by
  obtain ⟨f, fd, F, a, ty, b⟩ := D.ex
  exact ⟨⟨f, fd, ps, fn_okG F sc fun cdv A fr s H E hq hr => hbody f cdv A fr s H E hq hr, a, ty, b⟩⟩
end
section
variable {X : Cx} {Γ : Nat → Addr} {E : XK} {e : Expr} {es : List Expr} {mA : Env → M (List D)} {pos p : Pos} {k c j : Nat} {x : Str} {mf : List D → M D}
theorem re_makeC (C : CalleeX X.prog X.w X.K X.mg X.base Γ k c (j + 1) mf) (T : XCls X.K (Γ c)) (gm : X.mg x = some (.ref (Γ c))) (hq : Quiet X.A) (hr : Room (k + 1) X.A) (ha : RA X Γ E (e :: es) mA) (hl : ∀ r S ds S', mA r S = .ok ds S' → ds.length = j) (hn : j + 1 ≤ 1000 := by decide) (hg : Gl X x := by rfl) (hdb : (x == ("__debug__" : Str)) = false := by decide)
    (he : starEach (e :: es) X.env = (false, eval e X.env) :: starEach es X.env := by rfl) (hpl : (backTo pos (starEach es X.env)).any (·.1) = false := by rfl) : RE X Γ E (.Call (.Name x p) (e :: es) [] pos) (clM (mkxM c mf) mA) := by
  obtain ⟨f, fd, ps, F, a, ty, b⟩ := C.ex
  exact re_makeX T.oex a ty F hq hr hg gm b pass0 ha (fun r S ds S' h => by rw [hl r S ds S' h]) hn hdb he hpl
theorem re_makeC0 {c : Nat} (q : PySem.W.excIn X.K (Γ c) [.type "ValueError", .type "Exception", .type "BaseException", .type "object"] "ValueError.__new__" = true) (T : XCls X.K (Γ c)) (gm : X.mg x = some (.ref (Γ c))) (hg : Gl X x := by rfl) (hdb : (x == ("__debug__" : Str)) = false := by decide) :
    RE X Γ E (.Call (.Name x p) [] [] pos) (mkx0M c) := re_mkx0 PySem.F.excBase_ValueError q gm T.oex.kC hg hdb
end
theorem xcls_mk {K : PySem.W.Frag} {C N : Addr} {nm q : Str} {bs bm : List Value} {sn : List Str} {sub : List Value} {ab : Bool} {col : Option Bool} {dd : Option Addr} {k0 k1 k2 k3 k5 : Option Value}
    (l : K.lookup C = some (excClassObj nm q C N bs bm true sn sub ab col dd k0 k1 k2 k3 k5 "ValueError.__new__")) (hb : PySem.HandSPX.refsVE bm = true)
    (sa : PySem.W.findIn K (.ref C) "__setattr__" = some (some (.builtin "object.__setattr__"))) (exC : PySem.W.subIn K (.ref C) (.type "BaseException") = some true) (tyC : PySem.W.typeIn K (.ref C) = some (.type "type")) (kC : PySem.W.keepIn K (.ref C) = true)
    (ga : PySem.W.findIn K (.ref C) "__getattribute__" = some (some (.builtin "BaseException.__getattribute__"))) (gg : PySem.W.findIn K (.ref C) "__getattr__" = some none) (hd : PySem.W.hasDictIn K C = true) (cl : PySem.W.isClsIn K C = true)
    (ha : PySem.W.findIn K (.ref C) "__class__" = some (some (.builtin "object.__class__"))) (hn : PySem.W.specialIn K (.builtin "object.__class__") "__get__" = some (some (.builtin "getset_descriptor.__get__"))) (ht : PySem.W.takesIn K (.builtin "object.__class__") = some true) (hm : PySem.W.mroIn K C (.type "object") = some true) : XCls K C :=
  ⟨⟨⟨nm, q, N, bs, bm, sn, sub, ab, col, dd, k0, k1, k2, k3, k5, l, hb⟩, sa, exC, tyC, kC⟩, ⟨ga, gg, exC, hd⟩, cl, ha, hn, ht, hm⟩
theorem kitOne_ref {K : PySem.W.Frag} {C Z : Addr} {b : Bool} (cl : PySem.W.isClsIn K Z = true) (ty : PySem.W.typeIn K (.ref Z) = some (.type "type")) (s : PySem.W.subIn K (.ref C) (.ref Z) = some b) (hb : C = Z → b = true) : PySem.W.kitOne K (.ref C) (.ref Z) = some b := by
  unfold PySem.W.kitOne
  by_cases h : C = Z
  · subst h
    rw [hb rfl, if_pos (by simp)]
  · rw [if_neg (by simpa using h)]
    unfold PySem.W.kitCls
    have c2 : (PySem.W.clsIn K Z).isSome = true := cl
    simp only [c2, ty, beq_self_eq_true, Bool.and_self, if_true]
    exact s
theorem kitOne_ty {K : PySem.W.Frag} {C : Addr} {T : String} {b : Bool} (hk : PySem.W.kitMeta T = true) (s : PySem.W.subIn K (.ref C) (.type T) = some b) : PySem.W.kitOne K (.ref C) (.type T) = some b := by
  unfold PySem.W.kitOne
  rw [if_neg (by simp)]
  unfold PySem.W.kitCls
  simp only [hk, if_true]
  exact s
theorem kitOne_refT {K : PySem.W.Frag} {C Z : Addr} (x : XCls K Z) (s : PySem.W.subIn K (.ref C) (.ref Z) = some true) : PySem.W.kitOne K (.ref C) (.ref Z) = some true := kitOne_ref x.cl x.oex.tyC s fun _ => rfl
theorem kitOne_refF {K : PySem.W.Frag} {C Z : Addr} (x : XCls K Z) (s : PySem.W.subIn K (.ref C) (.ref Z) = some false) (z : PySem.W.subIn K (.ref Z) (.ref Z) = some true) : PySem.W.kitOne K (.ref C) (.ref Z) = some false := kitOne_ref x.cl x.oex.tyC s fun e => by
  subst e
  rw [s] at z
  cases z
theorem bt_ValueError : bootBuiltins "ValueError" = some (.type "ValueError") := by decide +kernel
theorem bt_str : bootBuiltins "str" = some (.type "str") := by decide +kernel
/-- what isinstance answers for the classes, by their numbers -/
def anL (l : List (Option Bool)) : Nat → Option Bool := fun n => l.getD n none
theorem anL_nil {P : Nat → Bool → Prop} : ∀ n b, anL [] n = some b → P n b := fun n b h => (by simp [anL] at h)
theorem anL_cons {P : Nat → Bool → Prop} {l : List (Option Bool)} {v : Bool} (h0 : P 0 v) (h : ∀ n b, anL l n = some b → P (n + 1) b) : ∀ n b, anL (some v :: l) n = some b → P n b := fun n b e => by
  cases n with
  | zero =>
    have e' : some v = some b := e
    cases e'
    exact h0
  | succ n => exact h n b e
theorem anL_skip {P : Nat → Bool → Prop} {l : List (Option Bool)} (h : ∀ n b, anL l n = some b → P (n + 1) b) : ∀ n b, anL (none :: l) n = some b → P n b := fun n b e => by
  cases n with
  | zero => cases (show (none : Option Bool) = some b from e)
  | succ n => exact h n b e
theorem mem_one {α : Type} {P : α → Prop} {a : α} (h : P a) : ∀ c ∈ [a], P c := fun c hc => by
  rw [List.mem_singleton.mp hc]; exact h
theorem mem_cons' {α : Type} {P : α → Prop} {a : α} {l : List α} (h : P a) (q : ∀ c ∈ l, P c) : ∀ c ∈ a :: l, P c := fun c hc => by
  rcases List.mem_cons.mp hc with e | e
  · rw [e]; exact h
  · exact q c e

/-! reasoning about runs -/
open PySem PySem.Spec PyProof.Rows L2

def Run {α : Type} (m : M α) (S : Sto) (Q : α → Sto → Prop) : Prop := ∃ a S', m S = .ok a S' ∧ Q a S'
section
variable {α β : Type} {m : M α} {S : Sto} {Q Q' : α → Sto → Prop}
theorem Run.imp (h : Run m S Q) (k : ∀ a S', Q a S' → Q' a S') : Run m S Q' := let ⟨a, S', e, q⟩ := h; ⟨a, S', e, k a S' q⟩
theorem run_ok {a : α} {S' : Sto} (h : m S = .ok a S') : Run m S Q ↔ Q a S' := ⟨fun ⟨b, S2, e, q⟩ => by
  rw [h] at e
  cases e
  exact q, fun q => ⟨a, S', h, q⟩⟩
theorem run_bnd {f : α → M β} {Q : β → Sto → Prop} : Run (m >>= f) S Q ↔ Run m S fun a S' => Run (f a) S' Q := by
  constructor
  · rintro ⟨b, S2, e, q⟩
    rw [bind_def] at e
    cases h : m S with
    | ok a S1 =>
      rw [h] at e
      exact ⟨a, S1, h, b, S2, e, q⟩
    | err _ _ _ => rw [h] at e; cases e
    | no => rw [h] at e; cases e
  · rintro ⟨a, S1, h, b, S2, e, q⟩
    exact ⟨b, S2, by rw [bnd_ok h]; exact e, q⟩
theorem run_pure {a : α} : Run (pure a : M α) S Q ↔ Q a S := run_ok rfl
theorem run_stuck : Run (stuck : M α) S Q ↔ False := ⟨fun ⟨_, _, e, _⟩ => (by cases e), False.elim⟩
theorem run_ite {c : Prop} [Decidable c] {m n : M α} : Run (if c then m else n) S Q ↔ if c then Run m S Q else Run n S Q := by split <;> exact Iff.rfl
theorem run_need {c : Prop} [Decidable c] {m : M α} : Run (if c then m else stuck) S Q ↔ c ∧ Run m S Q := by
  by_cases h : c
  · rw [if_pos h]; exact ⟨fun z => ⟨h, z⟩, fun z => z.2⟩
  · rw [if_neg h, run_stuck]; exact ⟨False.elim, fun z => h z.1⟩
end
section
variable {S : Sto} {r : Env} {Q : D → Sto → Prop} {QF : Fl → Sto → Prop} {QB : Bool → Sto → Prop} {QL : List D → Sto → Prop} {ma mb mc : Env → M D} {mA : Env → M (List D)} {tA tB : Env → M Bool} {mS mT : Env → M Fl}
theorem run_getv {i : Nat} {d : D} (h : r[i]? = some (some d)) : Run (getv i r) S Q ↔ Q d S := run_ok (by unfold getv; rw [h])
theorem run_cst {d : D} : Run (cst d r) S Q ↔ Q d S := run_pure
theorem run_bin {f : D → D → M D} : Run (binM f ma mb r) S Q ↔ Run (ma r) S fun x S1 => Run (mb r) S1 fun y S2 => Run (f x y) S2 Q := by unfold binM; simp only [run_bnd]
theorem run_un {f : D → M D} : Run (unM f ma r) S Q ↔ Run (ma r) S fun x S1 => Run (f x) S1 Q := by unfold unM; simp only [run_bnd]
theorem run_cl {f : List D → M D} : Run (clM f mA r) S Q ↔ Run (mA r) S fun x S1 => Run (f x) S1 Q := by unfold clM; simp only [run_bnd]
theorem run_nilA : Run (nilA r) S QL ↔ QL [] S := run_pure
theorem run_consA : Run (consA ma mA r) S QL ↔ Run (ma r) S fun x S1 => Run (mA r) S1 fun xs S2 => QL (x :: xs) S2 := by unfold consA; simp only [run_bnd, run_pure]
theorem run_mkT {xs : List D} : Run (mkT xs) S Q ↔ xs.length ≤ sizeLine ∧ Q (.tup xs) S := by unfold mkT; rw [run_need, run_pure]
theorem run_newO {o : O} : Run (newO o) S Q ↔ Q (.ref S.length) (S ++ [o]) := run_ok rfl
theorem run_mkL {xs : List D} : Run (mkL xs) S Q ↔ xs.length ≤ sizeLine ∧ Q (.ref S.length) (S ++ [.lst xs]) := by unfold mkL; rw [run_need, run_newO]
theorem run_tup : Run (tupM mA r) S Q ↔ Run (mA r) S fun xs S1 => xs.length ≤ sizeLine ∧ Q (.tup xs) S1 := by unfold tupM; simp only [run_bnd, run_mkT]
theorem run_lst : Run (lstM mA r) S Q ↔ Run (mA r) S fun xs S1 => xs.length ≤ sizeLine ∧ Q (.ref S1.length) (S1 ++ [.lst xs]) := by unfold lstM; simp only [run_bnd, run_mkL]
theorem run_asB {b : Bool} : Run (asB (.bl b)) S QB ↔ QB b S := run_pure
theorem run_tst : Run (tstM ma r) S QB ↔ Run (ma r) S fun x S1 => Run (asB x) S1 QB := by unfold tstM; simp only [run_bnd]
theorem run_ifM : Run (ifM tA ma mb r) S Q ↔ Run (tA r) S fun c S1 => if c = true then Run (ma r) S1 Q else Run (mb r) S1 Q := by unfold ifM; simp only [run_bnd, run_ite]
theorem run_andT : Run (andT tA tB r) S QB ↔ Run (tA r) S fun c S1 => if c = true then Run (tB r) S1 QB else QB false S1 := by unfold andT; simp only [run_bnd, run_ite, run_pure]
theorem run_orT : Run (orT tA tB r) S QB ↔ Run (tA r) S fun c S1 => if c = true then QB true S1 else Run (tB r) S1 QB := by unfold orT; simp only [run_bnd, run_ite, run_pure]
theorem run_notT : Run (notT tA r) S QB ↔ Run (tA r) S fun c S1 => QB (!c) S1 := by unfold notT; simp only [run_bnd, run_pure]
theorem run_andV : Run (andV ma mb r) S Q ↔ Run (ma r) S fun x S1 => Run (asB x) S1 fun c S2 => if c = true then Run (mb r) S2 Q else Q (.bl false) S2 := by unfold andV; simp only [run_bnd, run_ite, run_pure]
theorem run_orV : Run (orV ma mb r) S Q ↔ Run (ma r) S fun x S1 => Run (asB x) S1 fun c S2 => if c = true then Q (.bl true) S2 else Run (mb r) S2 Q := by unfold orV; simp only [run_bnd, run_ite, run_pure]
theorem run_notV : Run (notV ma r) S Q ↔ Run (ma r) S fun x S1 => Run (asB x) S1 fun c S2 => Q (.bl (!c)) S2 := by unfold notV; simp only [run_bnd, run_pure]
theorem run_nx : Run (nxM r) S QF ↔ QF (.nx r) S := run_pure
def onFl (k : Env → Sto → Prop) (QF : Fl → Sto → Prop) : Fl → Sto → Prop
  | .nx r, S => k r S
  | .rt d, S => QF (.rt d) S
  | .bk r, S => QF (.bk r) S
  | .ct r, S => QF (.ct r) S
theorem on_nx {k : Env → Sto → Prop} : onFl k QF (.nx r) S ↔ k r S := Iff.rfl
theorem on_rt {k : Env → Sto → Prop} {d : D} : onFl k QF (.rt d) S ↔ QF (.rt d) S := Iff.rfl
theorem run_seq : Run (seqM mS mT r) S QF ↔ Run (mS r) S (onFl (fun r' S1 => Run (mT r') S1 QF) QF) := by
  unfold seqM
  rw [run_bnd]
  constructor
  · rintro ⟨f, S1, e, q⟩
    refine ⟨f, S1, e, ?_⟩
    cases f with
    | nx r' => exact q
    | rt d => exact (run_pure (Q := QF)).mp q
    | bk r' => exact (run_pure (Q := QF)).mp q
    | ct r' => exact (run_pure (Q := QF)).mp q
  · rintro ⟨f, S1, e, q⟩
    refine ⟨f, S1, e, ?_⟩
    cases f with
    | nx r' => exact q
    | rt d => exact (run_pure (Q := QF)).mpr q
    | bk r' => exact (run_pure (Q := QF)).mpr q
    | ct r' => exact (run_pure (Q := QF)).mpr q
theorem run_ret : Run (retM ma r) S QF ↔ Run (ma r) S fun d S1 => QF (.rt d) S1 := by unfold retM; simp only [run_bnd, run_pure]
theorem run_drop : Run (dropM ma r) S QF ↔ Run (ma r) S fun _ S1 => QF (.nx r) S1 := by unfold dropM; simp only [run_bnd, run_pure]
theorem run_ifS : Run (ifS tA mS mT r) S QF ↔ Run (tA r) S fun c S1 => if c = true then Run (mS r) S1 QF else Run (mT r) S1 QF := by unfold ifS; simp only [run_bnd, run_ite]
theorem run_asg {g : D → Env → M Env} : Run (asgM ma g r) S QF ↔ Run (ma r) S fun d S1 => Run (g d r) S1 fun r' S2 => QF (.nx r') S2 := by unfold asgM; simp only [run_bnd, run_pure]
theorem run_gNm {i : Nat} {d : D} {QE : Env → Sto → Prop} : Run (gNm i d r) S QE ↔ QE (r.set i (some d)) S := run_pure
theorem run_par {i j : Nat} : Run (parM i j mA r) S QF ↔ Run (mA r) S fun ds S1 => Run (match ds with
  | [x, y] => pure (.nx ((r.set i (some x)).set j (some y)))
  | _ => stuck : M Fl) S1 QF := by unfold parM; exact run_bnd
theorem run_par3 {i j k : Nat} : Run (par3M i j k mA r) S QF ↔ Run (mA r) S fun ds S1 => Run (match ds with
  | [x, y, z] => pure (.nx (((r.set i (some x)).set j (some y)).set k (some z)))
  | _ => stuck : M Fl) S1 QF := by unfold par3M; exact run_bnd
theorem run_aug {i : Nat} {op : D → D → M D} : Run (augM i ma op r) S QF ↔ Run (getv i r) S fun x S1 => Run (ma r) S1 fun y S2 => Run (op x y) S2 fun z S3 => QF (.nx (r.set i (some z))) S3 := by unfold augM; simp only [run_bnd, run_pure]
theorem run_augS {get ip : D → D → M D} {set : D → D → D → M Unit} : Run (augSM ma mb mc get ip set r) S QF ↔ Run (ma r) S fun o S1 => Run (mb r) S1 fun i S2 => Run (get o i) S2 fun x S3 => Run (mc r) S3 fun y S4 => Run (ip x y) S4 fun z S5 => Run (set o i z) S5 fun _ S6 => QF (.nx r) S6 := by unfold augSM; simp only [run_bnd, run_pure]
theorem run_gSb {op : D → D → D → M Unit} {d : D} {QE : Env → Sto → Prop} : Run (gSb ma mb op d r) S QE ↔ Run (ma r) S fun o S1 => Run (mb r) S1 fun i S2 => Run (op o i d) S2 fun _ S3 => QE r S3 := by unfold gSb; simp only [run_bnd, run_pure]
def onRet (Q : D → Sto → Prop) : Fl → Sto → Prop
  | .rt d, S => Q d S
  | .nx _, S => Q .non S
  | _, _ => False
theorem ret_rt {d : D} : onRet Q (.rt d) S ↔ Q d S := Iff.rfl
theorem ret_nx : onRet Q (.nx r) S ↔ Q .non S := Iff.rfl
theorem run_fn {n : Nat} {ds : List D} : Run (fnM n mS ds) S Q ↔ Run (mS (ds.map some ++ List.replicate (n - ds.length) none)) S (onRet Q) := by
  unfold fnM
  rw [run_bnd]
  constructor
  · rintro ⟨f, S1, e, q⟩
    refine ⟨f, S1, e, ?_⟩
    cases f with
    | nx r' => exact (run_pure (Q := Q)).mp q
    | rt d => exact (run_pure (Q := Q)).mp q
    | bk r' => exact (run_stuck (Q := Q)).mp q
    | ct r' => exact (run_stuck (Q := Q)).mp q
  · rintro ⟨f, S1, e, q⟩
    refine ⟨f, S1, e, ?_⟩
    cases f with
    | nx r' => exact (run_pure (Q := Q)).mpr q
    | rt d => exact (run_pure (Q := Q)).mpr q
    | bk r' => exact q.elim
    | ct r' => exact q.elim
theorem run_slM {ml mh : Env → M (Option Int)} : Run (slM ma ml mh r) S Q ↔ Run (ma r) S fun d S1 => Run (ml r) S1 fun lo S2 => Run (mh r) S2 fun hi S3 => Run (slD d lo hi) S3 Q := by unfold slM; simp only [run_bnd]
theorem run_noP {QO : Option Int → Sto → Prop} : Run (noP r) S QO ↔ QO none S := run_pure
theorem run_someP {QO : Option Int → Sto → Prop} : Run (someP ma r) S QO ↔ Run (ma r) S fun d S1 => Run (match d with
  | .int i => pure (some i)
  | _ => stuck : M (Option Int)) S1 QO := by unfold someP; exact run_bnd
theorem run_isi {T : Tn} : Run (isiM T ma r) S Q ↔ Run (ma r) S fun d S1 => ∃ t, tyTn S1 d = some t ∧ Q (.bl (t.sub T)) S1 := by
  unfold isiM
  rw [run_bnd]
  constructor
  · rintro ⟨d, S1, e, ⟨a, S2, h, q⟩⟩
    refine ⟨d, S1, e, ?_⟩
    cases ht : tyTn S1 d with
    | none => simp only [ht] at h; cases h
    | some t => simp only [ht] at h; cases h; exact ⟨t, ht, q⟩
  · rintro ⟨d, S1, e, t, ht, q⟩
    exact ⟨d, S1, e, ⟨_, S1, by simp only [ht], q⟩⟩
/-! operations -/
theorem run_addI {i j : Int} : Run (addD (.int i) (.int j)) S Q ↔ Q (.int (i + j)) S := run_pure
theorem run_addI' {i j : Int} : Run (addI (.int i) (.int j)) S Q ↔ Q (.int (i + j)) S := run_pure
theorem run_subI {i j : Int} : Run (subD (.int i) (.int j)) S Q ↔ Q (.int (i - j)) S := run_pure
theorem run_mulI {i j : Int} : Run (mulD (.int i) (.int j)) S Q ↔ (small64 i || small64 j) = true ∧ Q (.int (i * j)) S := by unfold mulD; rw [run_need, run_pure]
theorem run_mulS {a : Str} {k : Int} : Run (mulD (.str a) (.int k)) S Q ↔ (a.length ≤ 1000 ∧ -1000 ≤ k ∧ k ≤ 1000) ∧ Q (.str (Txt.mul a k)) S := by unfold mulD; rw [run_need, run_pure]
theorem run_modI {i j : Int} : Run (modD (.int i) (.int j)) S Q ↔ 0 < j ∧ Q (.int (i % j)) S := by unfold modD; rw [run_need, run_pure]
theorem run_fdivI {i j : Int} : Run (fdivD (.int i) (.int j)) S Q ↔ (0 < j ∧ j < 1073741824) ∧ Q (.int (i / j)) S := by unfold fdivD; rw [run_need, run_pure]
theorem run_ltI {i j : Int} : Run (ltD (.int i) (.int j)) S Q ↔ Q (.bl (decide (i < j))) S := run_pure
theorem run_leI {i j : Int} : Run (leD (.int i) (.int j)) S Q ↔ Q (.bl (decide (i ≤ j))) S := run_pure
theorem run_gtI {i j : Int} : Run (gtD (.int i) (.int j)) S Q ↔ Q (.bl (decide (j < i))) S := run_pure
theorem run_geI {i j : Int} : Run (geD (.int i) (.int j)) S Q ↔ Q (.bl (decide (j ≤ i))) S := run_pure
theorem run_isN {x : D} : Run (isNoneD x .non) S Q ↔ Q (.bl (isNone x)) S := run_pure
theorem run_notN {x : D} : Run (notNoneD x .non) S Q ↔ Q (.bl (!isNone x)) S := run_pure
theorem run_ofB {f : Sto → Option Bool} {b : Bool} (h : f S = some b) : Run (ofB f) S Q ↔ Q (.bl b) S := run_ok (by unfold ofB; rw [h])
theorem run_absI {i : Int} : Run (absD [.int i]) S Q ↔ Q (.int (if i < 0 then -i else i)) S := run_pure
theorem run_intB {b : Bool} : Run (intD [.bl b]) S Q ↔ Q (.int (if b then 1 else 0)) S := run_pure
theorem run_tupT {xs : List D} : Run (tupleD [.tup xs]) S Q ↔ Q (.tup xs) S := run_pure
theorem run_tupL {n : Nat} {xs : List D} (h : S[n]? = some (.lst xs)) : Run (tupleD [.ref n]) S Q ↔ Q (.tup xs) S := run_ok (by unfold tupleD seqL; simp only [h])
theorem run_lenL {n : Nat} {xs : List D} (h : S[n]? = some (.lst xs)) : Run (lenD [.ref n]) S Q ↔ Q (.int xs.length) S := run_ok (by unfold lenD; simp only [h])
theorem run_lenT {xs : List D} : Run (lenD [.tup xs]) S Q ↔ Q (.int xs.length) S := run_ok rfl
theorem run_lenF {xs : List D} : Run (lenD [.fl xs]) S Q ↔ Q (.int xs.length) S := run_ok rfl
theorem run_lenS {x : Str} (h : x.length ≤ sizeLine) : Run (lenD [.str x]) S Q ↔ Q (.int x.length) S := run_ok (by unfold lenD; simp only [if_pos h])
theorem run_ixL {n : Nat} {xs : List D} {i : Int} {d : D} (h : S[n]? = some (.lst xs)) (hi : atI xs i = some d) : Run (ixD (.ref n) (.int i)) S Q ↔ Q d S := run_ok (by unfold ixD; simp only [h, hi])
theorem run_ixT {xs : List D} {i : Int} {d : D} (hi : atI xs i = some d) : Run (ixD (.tup xs) (.int i)) S Q ↔ Q d S := run_ok (by unfold ixD; simp only [hi])
theorem run_getL {n : Nat} {xs : List D} {i : Int} {d : D} (h0 : 0 ≤ i) (h1 : i < 2 ^ 63) (h : S[n]? = some (.lst xs)) (hi : xs[i.toNat]? = some d) : Run (getLD (.ref n) (.int i)) S Q ↔ Q d S := run_ok (by unfold getLD; simp only [h, hi]; rw [if_pos ⟨h0, h1⟩])
theorem run_setL {n : Nat} {xs : List D} {i : Int} {j : Nat} {d : D} {QU : Unit → Sto → Prop} (h : S[n]? = some (.lst xs)) (hi : ixN xs.length i = some j) : Run (setLD (.ref n) (.int i) d) S QU ↔ QU () (S.set n (.lst (xs.set j d))) := run_ok (by unfold setLD; simp only [h, hi])
theorem eqB_int {i j : Int} : eqB S (.int i) (.int j) = some (i == j) := by
  have e : eqP S (.int i) (.int j) = some (i == j) := by
    unfold eqP deep
    simp [toPy, SeqAt.shaped, PyData.canLay0, PyData.depth, PyData.eqv]
  unfold eqB
  simp only [twoStr, e]
theorem run_eqS {x y : Str} : Run (eqD (.str x) (.str y)) S Q ↔ Q (.bl (x == y)) S := by unfold eqD; exact run_ofB eqB_str
theorem run_eqI {i j : Int} : Run (eqD (.int i) (.int j)) S Q ↔ Q (.bl (i == j)) S := by unfold eqD; exact run_ofB eqB_int
end

open PySem PySem.Spec PyProof.Rows L2

theorem ite_t {a b : Prop} {c : Prop} [Decidable c] (h : c) (q : a) : if c then a else b := by rw [if_pos h]; exact q
theorem ite_f {a b : Prop} {c : Prop} [Decidable c] (h : ¬ c) (q : b) : if c then a else b := by rw [if_neg h]; exact q
theorem ite_two {a b : Prop} {c : Prop} [Decidable c] (h1 : c → a) (h2 : ¬ c → b) : if c then a else b := by
  by_cases h : c
  · rw [if_pos h]; exact h1 h
  · rw [if_neg h]; exact h2 h
theorem ite_b {a b : Prop} {p : Prop} [Decidable p] (h1 : p → a) (h2 : ¬ p → b) : if decide p = true then a else b := by
  by_cases h : p
  · rw [if_pos (decide_eq_true h)]; exact h1 h
  · rw [if_neg (by simp [h])]; exact h2 h
theorem ite_nb {a b : Prop} {p : Prop} [Decidable p] (h1 : p → b) (h2 : ¬ p → a) : if (!decide p) = true then a else b := by
  by_cases h : p
  · rw [if_neg (by simp [h])]; exact h1 h
  · rw [if_pos (by simp [h])]; exact h2 h
theorem ite_eq {a b : Prop} {i j : Int} (h1 : i = j → a) (h2 : i ≠ j → b) : if (i == j) = true then a else b := by
  by_cases h : i = j
  · rw [if_pos (beq_iff_eq.mpr h)]; exact h1 h
  · rw [if_neg (fun z => h (beq_iff_eq.mp z))]; exact h2 h
/-! one step of a run -/
local macro_rules | `(tactic| walk_at "dl") => `(tactic| first
  | (with_reducible first
  | refine run_fn.mpr ?_ | refine run_seq.mpr ?_ | refine on_nx.mpr ?_ | refine on_rt.mpr ?_ | refine ret_rt.mpr ?_ | refine ret_nx.mpr ?_ | refine run_nx.mpr ?_ | refine run_ret.mpr ?_ | refine run_drop.mpr ?_ | refine run_ifS.mpr ?_ | refine run_asg.mpr ?_ | refine run_gNm.mpr ?_
  | refine run_par.mpr ?_ | refine run_aug.mpr ?_ | refine run_gSb.mpr ?_ | refine run_tst.mpr ?_ | refine run_asB.mpr ?_ | refine run_bin.mpr ?_ | refine run_un.mpr ?_ | refine run_cl.mpr ?_ | refine run_consA.mpr ?_ | refine run_nilA.mpr ?_ | refine run_cst.mpr ?_
  | refine run_ifM.mpr ?_ | refine run_andT.mpr ?_ | refine run_orT.mpr ?_ | refine run_notT.mpr ?_ | refine run_andV.mpr ?_ | refine run_orV.mpr ?_ | refine run_notV.mpr ?_ | refine run_tup.mpr ?_ | refine run_lst.mpr ?_ | refine run_slM.mpr ?_ | refine run_noP.mpr ?_ | refine run_someP.mpr ?_
  | refine run_addI.mpr ?_ | refine run_addI'.mpr ?_ | refine run_subI.mpr ?_ | refine run_ltI.mpr ?_ | refine run_leI.mpr ?_ | refine run_gtI.mpr ?_ | refine run_geI.mpr ?_ | refine run_isN.mpr ?_ | refine run_notN.mpr ?_ | refine run_eqI.mpr ?_ | refine run_absI.mpr ?_ | refine run_intB.mpr ?_ | refine run_tupT.mpr ?_ | refine run_lenT.mpr ?_ | refine run_lenF.mpr ?_
  | refine run_pure.mpr ?_)
  | ((with_reducible refine' (run_getv ?dlh).mpr ?_); (case dlh => rfl)) | ((with_reducible refine' (run_ixT ?dlh).mpr ?_); (case dlh => rfl)))

/-! ### the bag -/
structure Bag (S : Sto) (b : Nat) : Prop where
  ex : ∃ (x y z : Int) (l : Nat) (cells : List Int), S[b]? = some (.lst [.int x, .int y, .int z, .ref l]) ∧ S[l]? = some (.lst (cells.map D.int)) ∧ l < b ∧ 0 ≤ y ∧ y < 2147483647 ∧ 0 ≤ z
/-- what stood stands, but the bag -/
structure Fr (b : Nat) (S S' : Sto) : Prop where
  len : S.length ≤ S'.length
  at_ : ∀ i, i < S.length → i ≠ b → S'[i]? = S[i]?
theorem Fr.refl {b : Nat} {S : Sto} : Fr b S S := ⟨Nat.le_refl _, fun _ _ _ => rfl⟩
theorem Fr.trans {b : Nat} {S S1 S2 : Sto} (a : Fr b S S1) (c : Fr b S1 S2) : Fr b S S2 := ⟨Nat.le_trans a.len c.len, fun i h n => (c.at_ i (Nat.lt_of_lt_of_le h a.len) n).trans (a.at_ i h n)⟩
theorem Fr.get {b : Nat} {S S' : Sto} (a : Fr b S S') {i : Nat} {o : O} (n : i ≠ b) (h : S[i]? = some o) : S'[i]? = some o := by
  rw [a.at_ i (List.getElem?_eq_some_iff.mp h).1 n]; exact h
theorem Fr.app {b : Nat} {S : Sto} {T : List O} : Fr b S (S ++ T) := ⟨by simp, fun i h _ => List.getElem?_append_left h⟩
theorem Bag.lt {S : Sto} {b : Nat} (h : Bag S b) : b < S.length := by
  obtain ⟨_, _, _, _, _, e, _⟩ := h.ex
  exact (List.getElem?_eq_some_iff.mp e).1
/-- pure runs: something is laid behind -/
def Gw (S S' : Sto) : Prop := ∃ T, S' = S ++ T
theorem Gw.refl {S : Sto} : Gw S S := ⟨[], by simp⟩
theorem Gw.trans {S S1 S2 : Sto} (a : Gw S S1) (b : Gw S1 S2) : Gw S S2 := by
  obtain ⟨t, rfl⟩ := a
  obtain ⟨u, rfl⟩ := b
  exact ⟨t ++ u, by rw [List.append_assoc]⟩
theorem Gw.one {S : Sto} {o : O} : Gw S (S ++ [o]) := ⟨[o], rfl⟩
theorem Gw.fr {b : Nat} {S S' : Sto} (a : Gw S S') : Fr b S S' := by
  obtain ⟨t, rfl⟩ := a
  exact Fr.app
theorem Gw.get {S S' : Sto} (a : Gw S S') {i : Nat} {o : O} (h : S[i]? = some o) : S'[i]? = some o := by
  obtain ⟨t, rfl⟩ := a
  rw [List.getElem?_append_left (List.getElem?_eq_some_iff.mp h).1]; exact h
theorem Gw.bag {S S' : Sto} {b : Nat} (a : Gw S S') (h : Bag S b) : Bag S' b := by
  obtain ⟨x, y, z, l, cells, h1, h2, h3⟩ := h.ex
  exact ⟨x, y, z, l, cells, a.get h1, a.get h2, h3⟩
theorem last_get {S : Sto} {o : O} : (S ++ [o])[S.length]? = some o := by
  rw [List.getElem?_append_right (Nat.le_refl _)]; simp

def bagB : Env → M Fl :=
    retM (lstM (consA (cst (.int 0)) (consA (cst (.int 1234567891)) (consA (cst (.int 0)) (consA (lcM [1] (itAny (slM (getv 0) (noP) (someP (cst (.int 63))))) (gNm 1) (yesM) (clM absD (consA (getv 1) (nilA)))) (nilA))))))
/-- the second half: from a bag whose first number may be great -/
def takeB2 : Env → M Fl := (seqM (ifS (tstM (binM gtD (binM ixD (getv 0) (cst (.int 0))) (cst (.int 0)))) (seqM (asgM (binM modD (binM ixD (getv 0) (cst (.int 0))) (getv 1)) (gNm 3))
    (seqM (asgM (binM fdivD (binM ixD (getv 0) (cst (.int 0))) (getv 1)) (gSb (getv 0) (cst (.int 0)) setLD))
    (retM (getv 3)))) (nxM))
    (seqM (asgM (binM modD (binM mulD (binM addD (binM ixD (getv 0) (cst (.int 1))) (cst (.int 1))) (cst (.int 39373))) (cst (.int 1000000007))) (gNm 4))
    (seqM (asgM (binM modD (binM mulD (binM modD (binM mulD (getv 4) (getv 4)) (cst (.int 998244353))) (cst (.int 30011))) (cst (.int 998244353))) (gNm 5))
    (seqM (ifS (tstM (binM gtD (getv 1) (cst (.int 1000000)))) (retM (binM modD (binM addD (binM mulD (getv 5) (cst (.int 1000000007))) (getv 4)) (getv 1))) (nxM))
    (retM (binM modD (binM fdivD (getv 5) (cst (.int 7))) (getv 1)))))))
def takeB3 : Env → M Fl := (asgM (binM modD (binM addD (binM addD (binM mulD (binM ixD (getv 0) (cst (.int 1))) (cst (.int 48271))) (binM modD (getv 2) (cst (.int 2147483647)))) (binM mulD (cst (.int 7919)) (binM ixD (getv 0) (cst (.int 2))))) (cst (.int 2147483647))) (gSb (getv 0) (cst (.int 1)) setLD))
def takeB4 : Env → M Fl := (seqM (augSM (getv 0) (cst (.int 2)) (cst (.int 1)) getLD addI setLD)
    (seqM (ifS (tstM (binM geD (getv 2) (cst (.int 1000000000000000000)))) (asgM (getv 2) (gSb (getv 0) (cst (.int 0)) setLD)) (nxM)) takeB3))
def takeB : Env → M Fl :=
    seqM (ifS (tstM (binM eqD (binM ixD (getv 0) (cst (.int 0))) (cst (.int 0)))) (seqM (asgM (cst (.int 0)) (gNm 2))
    (seqM (ifS (tstM (binM ltD (binM ixD (getv 0) (cst (.int 2))) (clM lenD (consA (binM ixD (getv 0) (cst (.int 3))) (nilA))))) (asgM (binM ixD (binM ixD (getv 0) (cst (.int 3))) (binM ixD (getv 0) (cst (.int 2)))) (gNm 2)) (nxM))
    takeB4)) (nxM)) takeB2
def takeM : List D → M D := fnM 6 takeB
theorem small_of {i : Int} (h0 : 0 ≤ i) (h1 : i < 2 ^ 64) : small64 i = true := by
  unfold small64
  rw [Bool.and_eq_true]
  exact ⟨decide_eq_true (by omega), decide_eq_true h1⟩
theorem take2 {S S0 : Sto} {b l : Nat} {k x y z : Int} {cells : List Int} {v2 : Option D} {Q : D → Sto → Prop} (hk : 0 < k) (hk2 : k < 1073741824) (fr : Fr b S0 S) (hb : S[b]? = some (.lst [.int x, .int y, .int z, .ref l])) (hl : S[l]? = some (.lst (cells.map D.int))) (hlb : l < b) (hy : 0 ≤ y) (hy2 : y < 2147483647) (hz : 0 ≤ z)
    (h : ∀ n S', 0 ≤ n → n < k → Bag S' b → Fr b S0 S' → Q (.int n) S') : Run (takeB2 [some (.ref b), some (.int k), v2, none, none, none]) S (onRet Q) := by
  have hbl : b < S.length := (List.getElem?_eq_some_iff.mp hb).1
  unfold takeB2
  repeat (first | walk_at "dl" | ((with_reducible refine' (run_ixL hb ?dlh).mpr ?_); (case dlh => rfl)))
  refine ite_b (fun hx => ?_) (fun hx => ?_)
  · repeat (first | walk_at "dl" | ((with_reducible refine' (run_ixL hb ?dlh).mpr ?_); (case dlh => rfl)) | with_reducible refine run_modI.mpr ⟨hk, ?_⟩ | with_reducible refine run_fdivI.mpr ⟨⟨hk, hk2⟩, ?_⟩ | ((with_reducible refine' (run_setL hb ?dlh).mpr ?_); (case dlh => rfl)))
    refine h _ _ (Int.emod_nonneg _ (by omega)) (Int.emod_lt_of_pos _ hk) ⟨x / k, y, z, l, cells, ?_, ?_, hlb, hy, hy2, hz⟩ (fr.trans ⟨by simp, fun i hi n => by rw [List.getElem?_set_ne (Ne.symm n)]⟩)
    · rw [List.getElem?_set_self hbl]; rfl
    · rw [List.getElem?_set_ne (Nat.ne_of_gt hlb)]; exact hl
  · repeat (first | walk_at "dl" | ((with_reducible refine' (run_ixL hb ?dlh).mpr ?_); (case dlh => rfl)) | with_reducible refine run_mulI.mpr ⟨by first | rfl | (rw [Bool.or_eq_true]; exact .inr rfl) | (rw [Bool.or_eq_true]; exact .inl (small_of (Int.emod_nonneg _ (by omega)) (Int.lt_trans (Int.emod_lt_of_pos _ (by omega)) (by omega)))), ?_⟩ | with_reducible refine run_modI.mpr ⟨by omega, ?_⟩)
    refine ite_b (fun hg => ?_) (fun hg => ?_)
    · repeat (first | walk_at "dl" | ((with_reducible refine' run_mulI.mpr ⟨?dlh, ?_⟩); (case dlh => (rw [Bool.or_eq_true]; first | exact .inr rfl | exact .inl rfl))) | with_reducible refine run_modI.mpr ⟨by omega, ?_⟩)
      exact h _ _ (Int.emod_nonneg _ (by omega)) (Int.emod_lt_of_pos _ hk) ⟨x, y, z, l, cells, hb, hl, hlb, hy, hy2, hz⟩ fr
    · repeat (first | walk_at "dl" | with_reducible refine run_modI.mpr ⟨by omega, ?_⟩ | with_reducible refine run_fdivI.mpr ⟨by omega, ?_⟩)
      exact h _ _ (Int.emod_nonneg _ (by omega)) (Int.emod_lt_of_pos _ hk) ⟨x, y, z, l, cells, hb, hl, hlb, hy, hy2, hz⟩ fr
theorem set_at {S : Sto} {b : Nat} {o u : O} (h : S[b]? = some u) : (S.set b o)[b]? = some o := List.getElem?_set_self (List.getElem?_eq_some_iff.mp h).1
theorem set_ne {S : Sto} {b l : Nat} {o : O} (h : l ≠ b) : (S.set b o)[l]? = S[l]? := List.getElem?_set_ne (Ne.symm h)
theorem Fr.set {b : Nat} {S : Sto} {o : O} : Fr b S (S.set b o) := ⟨by simp, fun i _ n => set_ne n⟩
theorem int_at {cells : List Int} {z : Int} (h0 : 0 ≤ z) (h : z < (cells.length : Int)) : ∃ c, atI (cells.map D.int) z = some (.int c) := by
  have hz : z.toNat < cells.length := by omega
  refine ⟨cells[z.toNat], ?_⟩
  unfold atI ixN
  rw [if_pos h0, if_pos (by simpa using h)]
  show (cells.map D.int)[z.toNat]? = _
  rw [List.getElem?_map, List.getElem?_eq_getElem hz]
  rfl
theorem take_run {S : Sto} {b : Nat} {k : Int} {Q : D → Sto → Prop} (hb : Bag S b) (hk : 0 < k) (hk2 : k < 1073741824) (h : ∀ n S', 0 ≤ n → n < k → Bag S' b → Fr b S S' → Q (.int n) S') : Run (takeM [.ref b, .int k]) S Q := by
  obtain ⟨x, y, z, l, cells, hb, hl, hlb, hy, hy2, hz⟩ := hb.ex
  have hbl : b < S.length := (List.getElem?_eq_some_iff.mp hb).1
  unfold takeM takeB
  have key : ∀ (v : Int), Run (takeB4 [some (.ref b), some (.int k), some (.int v), none, none, none]) S (onFl (fun r' S1 => Run (takeB2 r') S1 (onRet Q)) (onRet Q)) := fun v => by
    unfold takeB4
    refine run_seq.mpr (run_augS.mpr ?_)
    repeat (first | walk_at "dl" | ((with_reducible refine' (run_getL (by omega) (by omega) hb ?dlh).mpr ?_); (case dlh => rfl)) | ((with_reducible refine' (run_setL hb ?dlh).mpr ?_); (case dlh => rfl)))
    have hb1 : (S.set b (.lst [.int x, .int y, .int (z + 1), .ref l]))[b]? = some (.lst [.int x, .int y, .int (z + 1), .ref l]) := set_at hb
    have hl1 : (S.set b (.lst [.int x, .int y, .int (z + 1), .ref l]))[l]? = some (.lst (cells.map D.int)) := (set_ne (Nat.ne_of_lt hlb)).trans hl
    have fr1 : Fr b S (S.set b (.lst [.int x, .int y, .int (z + 1), .ref l])) := Fr.set
    show if _ then Run _ (S.set b (.lst [.int x, .int y, .int (z + 1), .ref l])) _ else Run _ (S.set b (.lst [.int x, .int y, .int (z + 1), .ref l])) _
    generalize S.set b (.lst [.int x, .int y, .int (z + 1), .ref l]) = S1 at hb1 hl1 fr1
    have fin : ∀ (x' : Int) (S2 : Sto), S2[b]? = some (.lst [.int x', .int y, .int (z + 1), .ref l]) → S2[l]? = some (.lst (cells.map D.int)) → Fr b S S2 →
        Run (takeB3 [some (.ref b), some (.int k), some (.int v), none, none, none]) S2 (onFl (fun r' S1 => Run (takeB2 r') S1 (onRet Q)) (onRet Q)) := fun x' S2 hb2 hl2 fr2 => by
      unfold takeB3
      repeat (first | walk_at "dl" | ((with_reducible refine' (run_ixL hb2 ?dlh).mpr ?_); (case dlh => rfl)) | ((with_reducible refine' (run_setL hb2 ?dlh).mpr ?_); (case dlh => rfl)) | ((with_reducible refine' run_mulI.mpr ⟨?dlh, ?_⟩); (case dlh => (rw [Bool.or_eq_true]; first | exact .inr rfl | exact .inl rfl))) | with_reducible refine run_modI.mpr ⟨by omega, ?_⟩)
      exact take2 hk hk2 (fr2.trans Fr.set) (set_at hb2) ((set_ne (Nat.ne_of_lt hlb)).trans hl2) hlb (Int.emod_nonneg _ (by omega)) (Int.emod_lt_of_pos _ (by omega)) (by omega) h
    refine ite_b (fun hx => ?_) (fun hx => ?_)
    · repeat (first | walk_at "dl" | ((with_reducible refine' (run_setL hb1 ?dlh).mpr ?_); (case dlh => rfl)))
      exact fin v _ (set_at hb1) ((set_ne (Nat.ne_of_lt hlb)).trans hl1) (fr1.trans Fr.set)
    · repeat (first | walk_at "dl")
      exact fin x S1 hb1 hl1 fr1
  repeat (first | walk_at "dl" | ((with_reducible refine' (run_ixL hb ?dlh).mpr ?_); (case dlh => rfl)))
  refine ite_eq (fun hx => ?_) (fun hx => ?_)
  · refine run_seq.mpr ?_
    repeat (first | walk_at "dl" | ((with_reducible refine' (run_ixL hb ?dlh).mpr ?_); (case dlh => rfl)) | with_reducible refine (run_lenL hl).mpr ?_)
    refine ite_b (fun hz2 => ?_) (fun hz2 => ?_)
    · obtain ⟨c, hc⟩ := int_at hz (by simpa using hz2)
      repeat (first | walk_at "dl" | ((with_reducible refine' (run_ixL hb ?dlh).mpr ?_); (case dlh => rfl)) | with_reducible refine (run_ixL hl hc).mpr ?_)
      exact key c
    · repeat (first | walk_at "dl")
      exact key 0
  · repeat (first | walk_at "dl")
    exact take2 hk hk2 Fr.refl hb hl hlb hy hy2 hz h

open PySem PySem.Spec PyProof.Rows L2

/-! ### loops -/
def onFor (k : Env → Sto → Prop) (QF : Fl → Sto → Prop) : Fl → Sto → Prop
  | .nx r, S => k r S
  | .ct r, S => k r S
  | .bk r, S => QF (.nx r) S
  | .rt d, S => QF (.rt d) S
theorem for_nx {k : Env → Sto → Prop} {QF : Fl → Sto → Prop} {r : Env} {S : Sto} : onFor k QF (.nx r) S ↔ k r S := Iff.rfl
section
variable {g : D → Env → M Env} {body : Env → M Fl} {J : ItD} {S : Sto} {r : Env} {QF : Fl → Sto → Prop} {Q : D → Sto → Prop}
theorem run_for {mi : Env → M ItD} : Run (forM_ mi g body r) S QF ↔ Run (mi r) S fun J S1 => Run (forN g body J (J.size S1) 0 r) S1 QF := by
  unfold forM_
  rw [run_bnd]
  exact Iff.rfl
theorem forN_rule {len : Nat} {item : Nat → D} (I : Nat → Env → Sto → Prop) (hat : ∀ i r S, I i r S → J.at i S = some (if i < len then some (item i) else none))
    (hs : ∀ i r S, i < len → I i r S → Run (g (item i) r) S fun r1 S1 => Run (body r1) S1 (onFor (I (i + 1)) QF)) (hd : ∀ r S, I len r S → QF (.nx r) S) : ∀ (n i : Nat) (r : Env) (S : Sto), i + n = len → I i r S → Run (forN g body J n i r) S QF
  | 0, i, r, S, e, h => by
    have q := hat i r S h
    rw [if_neg (by omega)] at q
    refine (run_ok (S' := S) (a := .nx r) ?_).mpr (hd r S (by rw [← e]; exact h))
    unfold forN
    simp only [q]
  | n + 1, i, r, S, e, h => by
    have q := hat i r S h
    rw [if_pos (by omega)] at q
    have k := hs i r S (by omega) h
    have go : Run (g (item i) r >>= fun r1 => body r1 >>= fun f => match f with
        | .nx r2 => forN g body J n (i + 1) r2
        | .ct r2 => forN g body J n (i + 1) r2
        | .bk r2 => pure (.nx r2)
        | .rt d => pure (.rt d)) S QF := by
      rw [run_bnd]
      refine k.imp fun r1 S1 k1 => ?_
      rw [run_bnd]
      refine k1.imp fun f S2 k2 => ?_
      cases f with
      | nx r2 => exact forN_rule I hat hs hd n (i + 1) r2 S2 (by omega) k2
      | ct r2 => exact forN_rule I hat hs hd n (i + 1) r2 S2 (by omega) k2
      | bk r2 => exact run_pure.mpr k2
      | rt d => exact run_pure.mpr k2
    obtain ⟨a, S', e1, q1⟩ := go
    refine ⟨a, S', ?_, q1⟩
    unfold forN
    simp only [q]
    exact e1
/-- over a range -/
theorem for_rng {lo : Int} {len : Nat} (I : Nat → Env → Sto → Prop) (h0 : I 0 r S) (hs : ∀ i r S, i < len → I i r S → Run (g (.int (lo + i)) r) S fun r1 S1 => Run (body r1) S1 (onFor (I (i + 1)) QF)) (hd : ∀ r S, I len r S → QF (.nx r) S) :
    Run (forN g body (.rng lo len) len 0 r) S QF := forN_rule (item := fun i => .int (lo + i)) I (fun i r S _ => rfl) hs hd len 0 r S (by omega) h0
theorem get_item {xs : List D} {i : Nat} : xs[i]? = if i < xs.length then some (xs.getD i .non) else none := by
  by_cases h : i < xs.length
  · rw [if_pos h, List.getElem?_eq_getElem h, List.getD_eq_getElem?_getD, List.getElem?_eq_getElem h]
    rfl
  · rw [if_neg h, List.getElem?_eq_none (by omega)]
/-- over a list that stays -/
theorem for_lst {n : Nat} {xs : List D} (I : Nat → Env → Sto → Prop) (h0 : I 0 r S) (hl : ∀ i r S, I i r S → S[n]? = some (.lst xs)) (hs : ∀ i r S d, xs[i]? = some d → I i r S → Run (g d r) S fun r1 S1 => Run (body r1) S1 (onFor (I (i + 1)) QF)) (hd : ∀ r S, I xs.length r S → QF (.nx r) S) :
    Run (forN g body (.lst n) xs.length 0 r) S QF := by
  refine forN_rule (item := fun i => xs.getD i .non) I (fun i r S h => ?_) (fun i r S hi h => hs i r S _ ?_ h) hd xs.length 0 r S (by omega) h0
  · unfold ItD.at
    simp only [hl i r S h]
    rw [get_item]
  · rw [get_item, if_pos hi]
theorem for_tup {xs : List D} (I : Nat → Env → Sto → Prop) (h0 : I 0 r S) (hs : ∀ i r S d, xs[i]? = some d → I i r S → Run (g d r) S fun r1 S1 => Run (body r1) S1 (onFor (I (i + 1)) QF)) (hd : ∀ r S, I xs.length r S → QF (.nx r) S) :
    Run (forN g body (.tup xs) xs.length 0 r) S QF := by
  refine forN_rule (item := fun i => xs.getD i .non) I (fun i r S h => ?_) (fun i r S hi h => hs i r S _ ?_ h) hd xs.length 0 r S (by omega) h0
  · unfold ItD.at
    simp only []
    rw [get_item]
  · rw [get_item, if_pos hi]
theorem run_itR {mA : Env → M (List D)} {QI : ItD → Sto → Prop} : Run (itRng1 mA r) S QI ↔ Run (mA r) S fun ds S1 => Run (match ds with
  | [.int j] => if -(2 ^ 62) ≤ j ∧ j < 2 ^ 62 then pure (.rng 0 j.toNat) else stuck
  | _ => stuck : M ItD) S1 QI := by unfold itRng1; exact run_bnd
theorem run_itR1 {j : Int} {QI : ItD → Sto → Prop} (h0 : 0 ≤ j) (h1 : j < 2 ^ 62) (h : QI (.rng 0 j.toNat) S) : Run (match [D.int j] with
  | [.int j] => if -(2 ^ 62) ≤ j ∧ j < 2 ^ 62 then pure (.rng 0 j.toNat) else stuck
  | _ => stuck : M ItD) S QI := by
  show Run (if -(2 ^ 62) ≤ j ∧ j < 2 ^ 62 then pure (.rng 0 j.toNat) else stuck) S QI
  exact run_need.mpr ⟨⟨by omega, h1⟩, run_pure.mpr h⟩
theorem run_itA {ma : Env → M D} {QI : ItD → Sto → Prop} : Run (itAny ma r) S QI ↔ Run (ma r) S fun d S1 => Run (match d with
  | .tup xs => pure (.tup xs)
  | .fl xs => pure (.fl xs)
  | .str x => pure (.str x)
  | .ref n => fun S => match S[n]? with
    | some (.lst _) => .ok (.lst n) S
    | _ => .no
  | _ => stuck : M ItD) S1 QI := by unfold itAny; exact run_bnd
theorem run_itAL {n : Nat} {xs : List D} {QI : ItD → Sto → Prop} (hn : S[n]? = some (.lst xs)) (h : QI (.lst n) S) : Run (match D.ref n with
  | .tup xs => pure (.tup xs)
  | .fl xs => pure (.fl xs)
  | .str x => pure (.str x)
  | .ref n => fun S => match S[n]? with
    | some (.lst _) => .ok (.lst n) S
    | _ => .no
  | _ => stuck : M ItD) S QI := (run_ok (by simp only [hn])).mpr h
theorem run_itAT {xs : List D} {QI : ItD → Sto → Prop} (h : QI (.tup xs) S) : Run (match D.tup xs with
  | .tup xs => pure (.tup xs)
  | .fl xs => pure (.fl xs)
  | .str x => pure (.str x)
  | .ref n => fun S => match S[n]? with
    | some (.lst _) => .ok (.lst n) S
    | _ => .no
  | _ => stuck : M ItD) S QI := run_pure.mpr h
theorem size_rng {lo : Int} {k : Nat} : ItD.size (.rng lo k) S = k := rfl
theorem size_lst {n : Nat} {xs : List D} (h : S[n]? = some (.lst xs)) : ItD.size (.lst n) S = xs.length := by unfold ItD.size; simp only [h]
theorem for_lstS {n : Nat} {xs : List D} (I : Nat → Env → Sto → Prop) (h0 : I 0 r S) (hl : ∀ i r S, I i r S → S[n]? = some (.lst xs)) (hs : ∀ i r S d, xs[i]? = some d → I i r S → Run (g d r) S fun r1 S1 => Run (body r1) S1 (onFor (I (i + 1)) QF)) (hd : ∀ r S, I xs.length r S → QF (.nx r) S) :
    Run (forN g body (.lst n) (ItD.size (.lst n) S) 0 r) S QF := by
  rw [size_lst (hl 0 r S h0)]
  exact for_lst I h0 hl hs hd
/-! ### comprehensions -/
theorem run_lc {own : List Nat} {mi : Env → M ItD} {tst : Env → M Bool} {el : Env → M D} : Run (lcM own mi g tst el r) S Q ↔ Run (mi r) S fun J S1 => Run (compN g tst el J (wipeE r own) (J.size S1) 0 []) S1 fun acc S2 => Q (.ref S2.length) (S2 ++ [.lst acc]) := by
  unfold lcM
  rw [run_bnd]
  constructor
  · rintro ⟨J, S1, e, h⟩
    refine ⟨J, S1, e, ?_⟩
    rw [run_bnd] at h
    obtain ⟨acc, S2, e2, h2⟩ := h
    exact ⟨acc, S2, e2, run_newO.mp h2⟩
  · rintro ⟨J, S1, e, acc, S2, e2, h2⟩
    refine ⟨J, S1, e, ?_⟩
    exact run_bnd.mpr ⟨acc, S2, e2, run_newO.mpr h2⟩
theorem compN_rule {tst : Env → M Bool} {el : Env → M D} {r0 : Env} {len : Nat} {item : Nat → D} {QL : List D → Sto → Prop} (I : Nat → List D → Sto → Prop) (hat : ∀ i acc S, I i acc S → J.at i S = some (if i < len then some (item i) else none))
    (hs : ∀ i acc S, i < len → I i acc S → Run (g (item i) r0) S fun r1 S1 => Run (tst r1) S1 fun c S2 => if c = true then Run (el r1) S2 fun y S3 => acc.length < sizeLine ∧ I (i + 1) (acc ++ [y]) S3 else I (i + 1) acc S2) (hd : ∀ acc S, I len acc S → QL acc S) :
    ∀ (n i : Nat) (acc : List D) (S : Sto), i + n = len → I i acc S → Run (compN g tst el J r0 n i acc) S QL
  | 0, i, acc, S, e, h => by
    have q := hat i acc S h
    rw [if_neg (by omega)] at q
    exact (run_ok (compN_end q)).mpr (hd acc S (by rw [← e]; exact h))
  | n + 1, i, acc, S, e, h => by
    have q := hat i acc S h
    rw [if_pos (by omega)] at q
    have k := hs i acc S (by omega) h
    have go : Run (compB g tst el J r0 n i acc (item i)) S QL := by
      unfold compB
      rw [run_bnd]
      refine k.imp fun r1 S1 k1 => ?_
      rw [run_bnd]
      refine k1.imp fun c S2 k2 => ?_
      cases c with
      | false =>
        rw [if_neg Bool.false_ne_true] at k2 ⊢
        exact compN_rule I hat hs hd n (i + 1) acc S2 (by omega) k2
      | true =>
        rw [if_pos rfl] at k2 ⊢
        rw [run_bnd]
        refine k2.imp fun y S3 ⟨hz, k3⟩ => ?_
        rw [if_pos hz]
        exact compN_rule I hat hs hd n (i + 1) (acc ++ [y]) S3 (by omega) k3
    obtain ⟨a, S', e1, q1⟩ := go
    exact ⟨a, S', by rw [compN_item q]; exact e1, q1⟩
theorem comp_rng {tst : Env → M Bool} {el : Env → M D} {r0 : Env} {lo : Int} {len : Nat} {QL : List D → Sto → Prop} (I : Nat → List D → Sto → Prop) (h0 : I 0 [] S)
    (hs : ∀ i acc S, i < len → I i acc S → Run (g (.int (lo + i)) r0) S fun r1 S1 => Run (tst r1) S1 fun c S2 => if c = true then Run (el r1) S2 fun y S3 => acc.length < sizeLine ∧ I (i + 1) (acc ++ [y]) S3 else I (i + 1) acc S2) (hd : ∀ acc S, I len acc S → QL acc S) :
    Run (compN g tst el (.rng lo len) r0 len 0 []) S QL := compN_rule (item := fun i => .int (lo + i)) I (fun i acc S _ => rfl) hs hd len 0 [] S (by omega) h0
theorem comp_lst {tst : Env → M Bool} {el : Env → M D} {r0 : Env} {n : Nat} {xs : List D} {QL : List D → Sto → Prop} (I : Nat → List D → Sto → Prop) (h0 : I 0 [] S) (hl : ∀ i acc S, I i acc S → S[n]? = some (.lst xs))
    (hs : ∀ i acc S d, xs[i]? = some d → I i acc S → Run (g d r0) S fun r1 S1 => Run (tst r1) S1 fun c S2 => if c = true then Run (el r1) S2 fun y S3 => acc.length < sizeLine ∧ I (i + 1) (acc ++ [y]) S3 else I (i + 1) acc S2) (hd : ∀ acc S, I xs.length acc S → QL acc S) :
    Run (compN g tst el (.lst n) r0 xs.length 0 []) S QL := by
  refine compN_rule (item := fun i => xs.getD i .non) I (fun i r S h => ?_) (fun i acc S hi h => hs i acc S _ ?_ h) hd xs.length 0 [] S (by omega) h0
  · unfold ItD.at
    simp only [hl i r S h]
    rw [get_item]
  · rw [get_item, if_pos hi]
theorem comp_lstS {tst : Env → M Bool} {el : Env → M D} {r0 : Env} {n : Nat} {xs : List D} {QL : List D → Sto → Prop} (I : Nat → List D → Sto → Prop) (h0 : I 0 [] S) (hl : ∀ i acc S, I i acc S → S[n]? = some (.lst xs))
    (hs : ∀ i acc S d, xs[i]? = some d → I i acc S → Run (g d r0) S fun r1 S1 => Run (tst r1) S1 fun c S2 => if c = true then Run (el r1) S2 fun y S3 => acc.length < sizeLine ∧ I (i + 1) (acc ++ [y]) S3 else I (i + 1) acc S2) (hd : ∀ acc S, I xs.length acc S → QL acc S) :
    Run (compN g tst el (.lst n) r0 (ItD.size (.lst n) S) 0 []) S QL := by
  rw [size_lst (hl 0 [] S h0)]
  exact comp_lst I h0 hl hs hd
theorem comp_tup {tst : Env → M Bool} {el : Env → M D} {r0 : Env} {xs : List D} {QL : List D → Sto → Prop} (I : Nat → List D → Sto → Prop) (h0 : I 0 [] S)
    (hs : ∀ i acc S d, xs[i]? = some d → I i acc S → Run (g d r0) S fun r1 S1 => Run (tst r1) S1 fun c S2 => if c = true then Run (el r1) S2 fun y S3 => acc.length < sizeLine ∧ I (i + 1) (acc ++ [y]) S3 else I (i + 1) acc S2) (hd : ∀ acc S, I xs.length acc S → QL acc S) :
    Run (compN g tst el (.tup xs) r0 xs.length 0 []) S QL := by
  refine compN_rule (item := fun i => xs.getD i .non) I (fun i r S h => ?_) (fun i acc S hi h => hs i acc S _ ?_ h) hd xs.length 0 [] S (by omega) h0
  · unfold ItD.at
    simp only []
    rw [get_item]
  · rw [get_item, if_pos hi]
theorem run_yes {QB : Bool → Sto → Prop} : Run (yesM r) S QB ↔ QB true S := run_pure
end
theorem Bag.set {S : Sto} {b m : Nat} {o : O} (h : Bag S b) (hm : b < m) : Bag (S.set m o) b := by
  obtain ⟨x, y, z, l, cells, h1, h2, h3, h4⟩ := h.ex
  exact ⟨x, y, z, l, cells, (List.getElem?_set_ne (by omega)).trans h1, (List.getElem?_set_ne (by omega)).trans h2, h3, h4⟩
theorem small_len {n : Nat} (h : n ≤ 1000) : n < sizeLine := Nat.lt_of_le_of_lt h (by decide)
/-! one step more -/
local macro_rules | `(tactic| walk_at "dm") => `(tactic| with_reducible first
  | refine run_for.mpr ?_ | refine run_lc.mpr ?_ | refine run_itR.mpr ?_ | refine run_itA.mpr ?_ | refine run_yes.mpr ?_ | refine for_nx.mpr ?_)

/-! ### the bag is made -/
theorem cut_map {α : Type} {f : α → D} {ns : List α} {lo hi : Option Int} : ∃ cs : List α, cutL (ns.map f) lo hi = cs.map f ∧ cs.length ≤ ns.length := by
  unfold cutL
  rw [← List.map_drop, ← List.map_take]
  exact ⟨_, rfl, by rw [List.length_take, List.length_drop]; omega⟩
theorem run_slF {xs : List D} {lo hi : Option Int} {S : Sto} {Q : D → Sto → Prop} : Run (slD (.fl xs) lo hi) S Q ↔ Q (.ref S.length) (S ++ [.lst (cutL xs lo hi)]) := run_ok rfl
theorem map_at {α : Type} {f : α → D} {cs : List α} {i : Nat} {d : D} (h : (cs.map f)[i]? = some d) : ∃ c, d = f c := by
  rw [List.getElem?_map] at h
  obtain ⟨c, _, rfl⟩ := Option.map_eq_some_iff.mp h
  exact ⟨c, rfl⟩
def bagM : List D → M D := fnM 2 bagB
theorem bag_run {ns : List Int} {Q : D → Sto → Prop} (hn : ns.length ≤ 1000) (h : ∀ S, Bag S 2 → S.length = 3 → Q (.ref 2) S) : Run (bagM [.fl (ns.map D.int)]) [] Q := by
  unfold bagM bagB
  repeat (first | walk_at "dl" | walk_at "dm" | refine run_slF.mpr ?_)
  obtain ⟨cs, ec, hc⟩ := cut_map (f := D.int) (ns := ns) (lo := none) (hi := some 63)
  rw [ec]
  refine run_itAL (xs := cs.map D.int) rfl ?_
  rw [size_lst (xs := cs.map D.int) rfl]
  refine comp_lst (fun i acc S => S = [.lst (cs.map D.int)] ∧ ∃ as : List Int, acc = as.map D.int ∧ as.length ≤ i ∧ i ≤ cs.length) ⟨rfl, [], rfl, Nat.le_refl _, Nat.zero_le _⟩ (fun i acc S z => by rw [z.1]; rfl) (fun i acc S d hd ⟨e, as, ea, hl, hi⟩ => ?_) (fun acc S ⟨e, as, ea, hl, hi⟩ => ?_)
  · have hi2 := (List.getElem?_eq_some_iff.mp hd).1
    rw [List.length_map] at hi2
    obtain ⟨c, rfl⟩ := map_at hd
    subst e
    repeat (first | walk_at "dl" | walk_at "dm")
    refine ite_t rfl ?_
    repeat (first | walk_at "dl" | walk_at "dm")
    subst ea
    refine ⟨by rw [List.length_map]; exact small_len (by omega), rfl, as ++ [if c < 0 then -c else c], by rw [List.map_append]; rfl, by simp; omega, by omega⟩
  · subst e; subst ea
    repeat (first | walk_at "dl" | walk_at "dm")
    refine ⟨Nat.le_of_ble_eq_true rfl, ?_⟩
    repeat (first | walk_at "dl" | walk_at "dm")
    exact h _ ⟨0, 1234567891, 0, 1, as, rfl, rfl, by decide, by decide, by decide, by decide⟩ rfl

open PySem PySem.Spec PyProof.Rows L2

/-! ### data at rest -/
structure Pg (S : Sto) (h b : Nat) (d : D) (p : PyData) : Prop where
  py : ∀ n, h ≤ n → toPy S n d = some p
  lay : p.canLay0 = true
  sh : p.showable = true
  dep : p.depth ≤ h
  len : p.shown.length ≤ b
structure PgA (S : Sto) (h b : Nat) (ds : List D) (ps : List PyData) : Prop where
  py : ∀ n, h ≤ n → toPys (toPy S n) ds = some ps
  lay : PyData.canLayAll0 ps = true
  sh : PyData.showableAll ps = true
  dep : PyData.depthAll ps ≤ h
  len : piled (PyData.shownAll ps) ≤ ds.length * (b + 2)
  num : ps.length = ds.length
def Pz (h b : Nat) (d : D) : Prop := ∃ p, ∀ S, Pg S h b d p
section
variable {S : Sto} {h b h' b' : Nat} {d x y : D} {p q : PyData} {ds : List D} {ps : List PyData}
theorem Pg.mono (g : Pg S h b d p) (h1 : h ≤ h') (h2 : b ≤ b') : Pg S h' b' d p := ⟨fun n hn => g.py n (Nat.le_trans h1 hn), g.lay, g.sh, Nat.le_trans g.dep h1, Nat.le_trans g.len h2⟩
theorem Pz.mono (g : Pz h b d) (h1 : h ≤ h') (h2 : b ≤ b') : Pz h' b' d := let ⟨p, k⟩ := g; ⟨p, fun S => (k S).mono h1 h2⟩
theorem pga_nil : PgA S h b [] [] := ⟨fun n _ => rfl, rfl, rfl, by simp [PyData.depthAll], by simp [PyData.shownAll, piled], rfl⟩
theorem pga_cons (g : Pg S h b d p) (gs : PgA S h b ds ps) : PgA S h b (d :: ds) (p :: ps) := by
  refine ⟨fun n hn => ?_, ?_, ?_, ?_, ?_, ?_⟩
  · unfold toPys
    rw [g.py n hn, gs.py n hn]
  · simp [PyData.canLayAll0, g.lay, gs.lay]
  · simp [PyData.showableAll, g.sh, gs.sh]
  · simp only [PyData.depthAll]
    exact Nat.max_le.mpr ⟨g.dep, gs.dep⟩
  · have a := g.len
    have c := gs.len
    unfold piled at c ⊢
    simp only [PyData.shownAll, List.map_cons, List.sum_cons, List.length_cons]
    rw [Nat.add_mul]
    omega
  · simp [gs.num]
theorem tupleText_le (ts : List Str) : (tupleText ts).length ≤ piled ts + 3 := by
  unfold tupleText
  rw [strLen_append, strLen_append]
  have e1 : ((("(" : String) : Str)).length = 1 := rfl
  have e3 : (((if ts.length == 1 then ",)" else ")" : String) : Str)).length ≤ 2 := by split <;> decide
  rw [e1]
  by_cases h : ts = []
  · subst h
    have e0 : (Str.join (", " : String) []).length = 0 := rfl
    rw [e0]; omega
  · have := join_length_add ts h
    omega
theorem textFrom_le : ∀ (ts : List Str) (k : Nat) (acc : Str), (textFrom k acc ts).length ≤ acc.length + piled ts
  | [], k, acc => Nat.le_add_right _ _
  | t :: r, k, acc => by
    have ih := textFrom_le r (k + 1) (acc ++ (if k > 0 then ", " else "" : String) ++ t)
    have e : (acc ++ (if k > 0 then ", " else "" : String) ++ t).length = acc.length + (if k > 0 then 2 else 0) + t.length := by
      rw [strLen_append, strLen_append]
      split <;> rfl
    have z : (if k > 0 then 2 else 0 : Nat) ≤ 2 := by split <;> omega
    rw [e] at ih
    show (textFrom (k + 1) _ r).length ≤ _
    rw [piled_cons]
    omega
theorem listText_le (ts : List Str) : (listText ts).length ≤ piled ts + 2 := by
  unfold listText
  rw [strLen_append]
  have := textFrom_le ts 0 ("[" : String)
  have e1 : ((("[" : String) : Str)).length = 1 := rfl
  have e2 : ((("]" : String) : Str)).length = 1 := rfl
  omega
theorem pg_tup (g : PgA S h b ds ps) : Pg S (h + 1) (ds.length * (b + 2) + 3) (.tup ds) (.tuple ps) := by
  refine ⟨fun n hn => ?_, ?_, ?_, ?_, ?_⟩
  · obtain ⟨m, rfl⟩ : ∃ m, n = m + 1 := ⟨n - 1, by omega⟩
    unfold toPy
    rw [g.py m (by omega)]
    rfl
  · simpa [PyData.canLay0] using g.lay
  · simpa [PyData.showable] using g.sh
  · simpa [PyData.depth] using g.dep
  · have a := tupleText_le (PyData.shownAll ps)
    have c := g.len
    simp only [PyData.shown]
    omega
theorem pg_lst {k : Nat} (hk : S[k]? = some (.lst ds)) (g : PgA S h b ds ps) : Pg S (h + 1) (ds.length * (b + 2) + 3) (.ref k) (.list ps) := by
  refine ⟨fun n hn => ?_, ?_, ?_, ?_, ?_⟩
  · obtain ⟨m, rfl⟩ : ∃ m, n = m + 1 := ⟨n - 1, by omega⟩
    unfold toPy
    simp only [hk]
    rw [g.py m (by omega)]
    rfl
  · simpa [PyData.canLay0] using g.lay
  · simpa [PyData.showable] using g.sh
  · simpa [PyData.depth] using g.dep
  · have a := listText_le (PyData.shownAll ps)
    have c := g.len
    simp only [PyData.shown]
    omega
theorem pza : ∀ {ds : List D}, (∀ d ∈ ds, Pz h b d) → ∃ ps, ∀ S, PgA S h b ds ps
  | [], _ => ⟨[], fun S => pga_nil⟩
  | d :: ds, k => by
    obtain ⟨p, hp⟩ := k d (List.mem_cons_self ..)
    obtain ⟨ps, hps⟩ := pza fun x hx => k x (List.mem_cons_of_mem _ hx)
    exact ⟨p :: ps, fun S => pga_cons (hp S) (hps S)⟩
theorem pz_tup {n : Nat} (k : ∀ d ∈ ds, Pz h b d) (hn : ds.length ≤ n) : Pz (h + 1) (n * (b + 2) + 3) (.tup ds) := by
  obtain ⟨ps, g⟩ := pza k
  exact ⟨.tuple ps, fun S => (pg_tup (g S)).mono (Nat.le_refl _) (Nat.add_le_add_right (Nat.mul_le_mul_right _ hn) 3)⟩
theorem pz_lst {k : Nat} (hk : S[k]? = some (.lst ds)) (g : ∀ d ∈ ds, Pz h b d) : ∃ p, Pg S (h + 1) (ds.length * (b + 2) + 3) (.ref k) p := by
  obtain ⟨ps, g⟩ := pza g
  exact ⟨.list ps, pg_lst hk (g S)⟩
theorem pg_non : Pg S 0 4 .non .none := ⟨fun n _ => by cases n <;> rfl, rfl, rfl, by simp [PyData.depth], Nat.le_of_ble_eq_true rfl⟩
theorem pz_non : Pz 0 4 .non := ⟨.none, fun S => pg_non⟩
theorem pz_bl {c : Bool} : Pz 0 5 (.bl c) := ⟨.bool c, fun S => ⟨fun n _ => by cases n <;> rfl, rfl, rfl, by simp [PyData.depth], by cases c <;> exact Nat.le_of_ble_eq_true rfl⟩⟩
theorem pg_int {i : Int} (h0 : 0 ≤ i) (h1 : i < 10 ^ 18) : Pg S 0 18 (.int i) (.int i) := ⟨fun n _ => by cases n <;> rfl, rfl, by
    simp only [PyData.showable]
    refine decide_eq_true ?_
    have e : i.natAbs < 2 ^ 60 := by omega
    by_cases z : i.natAbs = 0
    · rw [z]; decide
    · have := (Nat.log2_lt z).mpr e
      omega, by simp [PyData.depth], by
    simp only [PyData.shown]
    exact toString_length_le h0 (by decide) h1⟩
theorem pz_int {i : Int} (h0 : 0 ≤ i) (h1 : i < 10 ^ 18) : Pz 0 18 (.int i) := ⟨.int i, fun S => pg_int h0 h1⟩
/-- a text that may stand anywhere -/
def txOk (x : Str) : Bool := PyData.strOk x && decide ((reprText x).length ≤ 30) && decide (x.length ≤ 20)
theorem pg_str {x : Str} (hx : txOk x = true) : Pg S 0 30 (.str x) (.str x) := by
  unfold txOk at hx
  rw [Bool.and_eq_true, Bool.and_eq_true] at hx
  exact ⟨fun n _ => by cases n <;> rfl, by simpa [PyData.canLay0] using hx.1.1, rfl, by simp [PyData.depth], of_decide_eq_true hx.1.2⟩
theorem pz_str {x : Str} (hx : txOk x = true) : Pz 0 30 (.str x) := ⟨.str x, fun S => pg_str hx⟩
theorem Pz.tup {xs : List D} (g : Pz h b (.tup xs)) : ∃ ps, ∀ S, Pg S h b (.tup xs) (.tuple ps) := by
  obtain ⟨p, k⟩ := g
  have e := (k []).py (h + 1) (Nat.le_succ _)
  unfold toPy at e
  obtain ⟨ps, _, rfl⟩ := Option.map_eq_some_iff.mp e
  exact ⟨ps, k⟩
theorem Pg.shaped (g : Pg S h b d p) (hh : h ≤ 64) : SeqAt.shaped p = true := by
  unfold SeqAt.shaped
  rw [Bool.and_eq_true]
  exact ⟨g.lay, decide_eq_true (Nat.le_trans g.dep hh)⟩
theorem eqB_pg (gx : Pg S h b x p) (gy : Pg S h' b' y q) (hh : h ≤ 64) (hh' : h' ≤ 64) : eqB S x y = some (PyData.eqv p q) := by
  have ex := gx.py deep (by unfold deep; omega)
  have ey := gy.py deep (by unfold deep; omega)
  unfold eqB
  split
  · rename_i a c e
    cases x <;> cases y <;> first | cases e | skip
    have e1 : p = .str a := (Option.some.inj ex).symm
    have e2 : q = .str c := (Option.some.inj ey).symm
    subst e1; subst e2
    simp [PyData.eqv]
  · have e : eqP S x y = some (PyData.eqv p q) := by
      unfold eqP
      rw [ex, ey]
      simp only []
      rw [if_pos ⟨gx.shaped hh, gy.shaped hh'⟩]
    rw [e]
theorem run_eqG {Q : D → Sto → Prop} (gx : Pg S h b x p) (gy : Pg S h' b' y q) (hh : h ≤ 64) (hh' : h' ≤ 64) : Run (eqD x y) S Q ↔ Q (.bl (PyData.eqv p q)) S := by
  unfold eqD
  exact run_ofB (eqB_pg gx gy hh hh')
theorem run_eqTS {Q : D → Sto → Prop} {xs : List D} {z : Str} (gx : Pz h b (.tup xs)) (hh : h ≤ 64) (hz : txOk z = true) : Run (eqD (.tup xs) (.str z)) S Q ↔ Q (.bl false) S := by
  obtain ⟨ps, k⟩ := gx.tup
  rw [run_eqG (k S) (pg_str hz) hh (by decide)]
  simp [PyData.eqv]
theorem run_neG {Q : D → Sto → Prop} (gx : Pg S h b x p) (gy : Pg S h' b' y q) (hh : h ≤ 64) (hh' : h' ≤ 64) : Run (neD x y) S Q ↔ Q (.bl (!PyData.eqv p q)) S := by
  unfold neD
  exact run_ofB (by rw [eqB_pg gx gy hh hh']; rfl)
theorem inB_pgT {qs : List PyData} (gx : Pg S h b x p) (gy : Pg S h' b' y (.tuple qs)) (hh : h ≤ 64) (hh' : h' ≤ 64) : inB S x y = some (qs.any fun y => PyData.eqv y p) := by
  unfold inB
  rw [gx.py deep (by unfold deep; omega), gy.py deep (by unfold deep; omega)]
  simp only []
  rw [if_pos ⟨gx.shaped hh, gy.shaped hh'⟩]
theorem inB_pgL {qs : List PyData} (gx : Pg S h b x p) (gy : Pg S h' b' y (.list qs)) (hh : h ≤ 64) (hh' : h' ≤ 64) : inB S x y = some (qs.any fun y => PyData.eqv y p) := by
  unfold inB
  rw [gx.py deep (by unfold deep; omega), gy.py deep (by unfold deep; omega)]
  simp only []
  rw [if_pos ⟨gx.shaped hh, gy.shaped hh'⟩]
theorem run_inT {Q : D → Sto → Prop} {cs : List D} {qs : List PyData} (gx : Pg S h b x p) (gy : Pg S h' b' (.tup cs) (.tuple qs)) (hh : h ≤ 64) (hh' : h' ≤ 64) : Run (memD x (.tup cs)) S Q ↔ Q (.bl (qs.any fun y => PyData.eqv y p)) S := by
  unfold memD
  refine run_ofB ?_
  cases x <;> exact inB_pgT gx gy hh hh'
theorem run_reprG {Q : D → Sto → Prop} (gx : Pg S h b x p) (hh : h ≤ 64) (hb : b ≤ sizeLine) : Run (reprD [x]) S Q ↔ Q (.str p.shown) S := by
  have e : showB S x = some p.shown := by
    unfold showB
    rw [gx.py deep (by unfold deep; omega)]
    simp only []
    rw [if_pos ⟨SeqAt.depth_of_shaped (gx.shaped hh), gx.sh, Nat.le_trans gx.len hb⟩]
  refine run_ok ?_
  unfold reprD
  simp only [e]
def alikeB : Env → M Fl := retM (andV (binM eqD (getv 0) (getv 1)) (binM eqD (clM reprD (consA (getv 0) (nilA))) (clM reprD (consA (getv 1) (nilA)))))
def alikeM : List D → M D := fnM 2 alikeB
theorem alike_run {Q : D → Sto → Prop} (gx : Pg S h b x p) (gy : Pg S h b y p) (hh : h ≤ 64) (hb : b ≤ sizeLine) (k : Q (.bl true) S) : Run (alikeM [x, y]) S Q := by
  unfold alikeM alikeB
  repeat walk_at "dl"
  refine (run_eqG gx gy hh hh).mpr ?_
  rw [SeqAt.eqv_refl p gx.lay]
  repeat walk_at "dl"
  refine ite_t rfl ?_
  repeat walk_at "dl"
  refine (run_reprG gx hh hb).mpr ?_
  repeat walk_at "dl"
  refine (run_reprG gy hh hb).mpr (run_eqS.mpr ?_)
  rw [beq_self_eq_true]
  exact k
end

open PySem PySem.Spec PyProof.Rows L2

section
variable {S : Sto} {b : Nat} {Q : D → Sto → Prop}
/-- a list at hand is read at a place drawn -/
theorem ix_run {n : Nat} {xs : List D} {i : Int} (hS : S[n]? = some (.lst xs)) (h0 : 0 ≤ i) (h1 : i < xs.length) (h : ∀ d, d ∈ xs → Q d S) : Run (ixD (.ref n) (.int i)) S Q := by
  have e : (i.toNat : Int) = i := Int.toNat_of_nonneg h0
  have hl : i.toNat < xs.length := by omega
  refine (run_ixL (d := xs[i.toNat]) hS ?_).mpr (h _ (List.getElem_mem _))
  have a := atI_nat (xs := xs) (List.getElem?_eq_getElem hl)
  rwa [e] at a
def textL : List D := [.str "", .str "a", .str "b", .str "one", .str "a b", .str "say \"x\"", .str "back\\slash", .str "two\nlines", .str "$arg", .str "-", .str "a,b", .str (Txt.mul "x" 20)]
def textB : Env → M Fl :=
    seqM (asgM (lstM (consA (cst (.str "")) (consA (cst (.str "a")) (consA (cst (.str "b")) (consA (cst (.str "one")) (consA (cst (.str "a b")) (consA (cst (.str "say \"x\"")) (consA (cst (.str "back\\slash")) (consA (cst (.str "two\nlines")) (consA (cst (.str "$arg")) (consA (cst (.str "-")) (consA (cst (.str "a,b")) (consA (binM mulD (cst (.str "x")) (cst (.int 20))) (nilA)))))))))))))) (gNm 1))
    (retM (binM ixD (getv 1) (clM (takeM) (consA (getv 0) (consA (cst (.int 12)) (nilA))))))
def textM : List D → M D := fnM 2 textB
theorem text_tx : ∀ d ∈ textL, ∃ x, d = .str x ∧ txOk x = true := by
  intro d hd
  have a : textL.all (fun d => match d with | .str x => txOk x | _ => false) = true := by decide +kernel
  have c := List.all_eq_true.mp a d hd
  cases d <;> first | exact ⟨_, rfl, c⟩ | cases c
theorem text_run (hb : Bag S b) (h : ∀ x S', txOk x = true → Bag S' b → Fr b S S' → Q (.str x) S') : Run (textM [.ref b]) S Q := by
  unfold textM textB
  repeat (first | walk_at "dl" | walk_at "dm" | refine run_mulS.mpr ⟨by decide, ?_⟩)
  refine ⟨Nat.le_of_ble_eq_true rfl, ?_⟩
  repeat (first | walk_at "dl" | walk_at "dm")
  refine take_run ((Gw.one (o := .lst textL)).bag hb) (by decide) (by decide) fun n S' h0 h1 hB fr => ?_
  have hl : S'[S.length]? = some (.lst textL) := fr.get (Nat.ne_of_gt hb.lt) last_get
  refine ix_run hl h0 h1 fun d hd => ?_
  obtain ⟨x, rfl, hx⟩ := text_tx d hd
  repeat (first | walk_at "dl" | walk_at "dm")
  exact h x S' hx hB ((Gw.one.fr).trans fr)
/-! ### contents -/
theorem none_of {d : D} (h : isNone d = true) : d = .non := by cases d <;> first | rfl | cases h
inductive Cont : Nat → D → Prop
  | str {n : Nat} {x : Str} : txOk x = true → Cont n (.str x)
  | made {n : Nat} {x : Str} {ps : List D} : txOk x = true → ps.length ≤ 3 → (∀ p ∈ ps, isNone p = false → Cont n p) → Cont (n + 1) (.tup [.str "made", .str x, .tup ps])
def contentB (rec_ : List D → M D) : Env → M Fl :=
    seqM (ifS (orT (tstM (binM eqD (getv 1) (cst (.int 0)))) (tstM (binM gtD (clM (takeM) (consA (getv 0) (consA (cst (.int 3)) (nilA)))) (cst (.int 0))))) (retM (clM (textM) (consA (getv 0) (nilA)))) (nxM))
    (seqM (asgM (lcM [3] (itRng1 (consA (clM (takeM) (consA (getv 0) (consA (cst (.int 4)) (nilA)))) (nilA))) (gNm 3) (yesM) (clM rec_ (consA (getv 0) (consA (binM subD (getv 1) (cst (.int 1))) (nilA))))) (gNm 2))
    (retM (tupM (consA (cst (.str "made")) (consA (binM ixD (lstM (consA (cst (.str "zip")) (consA (cst (.str "cc")) (consA (cst (.str "a")) (nilA))))) (clM (takeM) (consA (getv 0) (consA (cst (.int 3)) (nilA))))) (consA (clM tupleD (consA (lcM [4] (itAny (getv 2)) (gNm 4) (yesM) (binM ixD (lstM (consA (getv 4) (consA (cst .non) (nilA)))) (clM (takeM) (consA (getv 0) (consA (cst (.int 2)) (nilA)))))) (nilA))) (nilA)))))))
def contentM : Nat → List D → M D
  | 0 => fun _ => stuck
  | n + 1 => fnM 5 (contentB (contentM n))
theorem content_run : ∀ (n f : Nat) (S : Sto) (Q : D → Sto → Prop), n < f → Bag S b → (∀ d S', Cont n d → Bag S' b → Fr b S S' → Q d S') → Run (contentM f [.ref b, .int (n : Int)]) S Q
  | n, 0, S, Q, hf, _, _ => absurd hf (Nat.not_lt_zero _)
  | 0, f + 1, S, Q, hf, hb, h => by
    unfold contentM contentB
    repeat (first | walk_at "dl" | walk_at "dm")
    refine ite_t (by decide) ?_
    refine ite_t rfl ?_
    repeat (first | walk_at "dl" | walk_at "dm")
    refine text_run hb fun x S' hx hB fr => ?_
    repeat (first | walk_at "dl" | walk_at "dm")
    exact h _ _ (.str hx) hB fr
  | n + 1, f + 1, S, Q, hf, hb, h => by
    unfold contentM contentB
    repeat (first | walk_at "dl" | walk_at "dm")
    refine ite_f (by simp; omega) ?_
    repeat (first | walk_at "dl" | walk_at "dm")
    refine take_run hb (by decide) (by decide) fun k S1 h0 h1 hB fr => ?_
    repeat (first | walk_at "dl" | walk_at "dm")
    refine ite_b (fun hk => ?_) (fun hk => ?_)
    · repeat (first | walk_at "dl" | walk_at "dm")
      refine text_run hB fun x S' hx hB fr' => ?_
      repeat (first | walk_at "dl" | walk_at "dm")
      exact h _ _ (.str hx) hB (fr.trans fr')
    · repeat (first | walk_at "dl" | walk_at "dm")
      refine take_run hB (by decide) (by decide) fun k S2 h0 h1 hB fr2 => ?_
      repeat (first | walk_at "dl" | walk_at "dm")
      refine run_itR1 h0 (by omega) ?_
      rw [size_rng]
      refine comp_rng (fun i acc S' => Bag S' b ∧ Fr b S S' ∧ acc.length = i ∧ ∀ d ∈ acc, Cont n d) ⟨hB, fr.trans fr2, rfl, fun d hd => absurd hd (List.not_mem_nil)⟩ (fun i acc S3 hi ⟨hB, fr3, hl, hc⟩ => ?_) (fun acc S3 ⟨hB, fr3, hl, hc⟩ => ?_)
      · repeat (first | walk_at "dl" | walk_at "dm")
        refine ite_t rfl ?_
        repeat (first | walk_at "dl" | walk_at "dm")
        have e : ((n + 1 : Nat) : Int) - 1 = (n : Int) := by omega
        rw [e]
        refine content_run n f S3 _ (by omega) hB fun d S4 hd hB fr4 => ?_
        refine ⟨small_len (by omega), hB, fr3.trans fr4, by simp [hl], fun x hx => ?_⟩
        rcases List.mem_append.mp hx with hx | hx
        · exact hc x hx
        · rw [List.mem_singleton.mp hx]; exact hd
      · repeat (first | walk_at "dl" | walk_at "dm")
        refine ⟨Nat.le_of_ble_eq_true rfl, ?_⟩
        repeat (first | walk_at "dl" | walk_at "dm")
        have hlt := hB.lt
        have hacc : ((S3 ++ [O.lst acc]) ++ [O.lst [.str "zip", .str "cc", .str "a"]])[S3.length]? = some (O.lst acc) := Gw.one.get last_get
        refine take_run (Gw.one.bag (Gw.one.bag hB)) (by decide) (by decide) fun k S4 h0 h1 hB fr4 => ?_
        have hacc4 := fr4.get (Nat.ne_of_gt hlt) hacc
        have hl4 : S4[(S3 ++ [O.lst acc]).length]? = some (O.lst [.str "zip", .str "cc", .str "a"]) := fr4.get (by simp; omega) last_get
        refine ix_run hl4 h0 h1 fun d hd => ?_
        have hx : ∃ x, d = .str x ∧ txOk x = true := by
          rcases List.mem_cons.mp hd with rfl | hd
          · exact ⟨_, rfl, by decide +kernel⟩
          rcases List.mem_cons.mp hd with rfl | hd
          · exact ⟨_, rfl, by decide +kernel⟩
          rcases List.mem_cons.mp hd with rfl | hd
          · exact ⟨_, rfl, by decide +kernel⟩
          · exact absurd hd (List.not_mem_nil)
        obtain ⟨x, rfl, hx⟩ := hx
        repeat (first | walk_at "dl" | walk_at "dm")
        refine run_itAL hacc4 ?_
        rw [size_lst hacc4]
        have fr4' : Fr b S S4 := fr3.trans ((Gw.one.trans Gw.one).fr.trans fr4)
        refine comp_lst (fun i acc' S' => Bag S' b ∧ Fr b S S' ∧ S'[S3.length]? = some (O.lst acc) ∧ acc'.length = i ∧ ∀ d ∈ acc', d = .non ∨ Cont n d) ⟨hB, fr4', hacc4, rfl, fun d hd => absurd hd (List.not_mem_nil)⟩ (fun i acc S' z => z.2.2.1) (fun i acc' S5 d hd ⟨hB, fr5, ha5, hl5, hc5⟩ => ?_) (fun acc' S5 ⟨hB, fr5, ha5, hl5, hc5⟩ => ?_)
        · have hdm : d ∈ acc := List.mem_of_getElem? hd
          have hi5 := (List.getElem?_eq_some_iff.mp hd).1
          repeat (first | walk_at "dl" | walk_at "dm")
          refine ite_t rfl ?_
          repeat (first | walk_at "dl" | walk_at "dm")
          refine ⟨Nat.le_of_ble_eq_true rfl, ?_⟩
          repeat (first | walk_at "dl" | walk_at "dm")
          have hlt5 := hB.lt
          have hs5 : S3.length < S5.length := (List.getElem?_eq_some_iff.mp ha5).1
          refine take_run (Gw.one.bag hB) (by decide) (by decide) fun k S6 h0 h1 hB fr6 => ?_
          refine ix_run (fr6.get (Nat.ne_of_gt hlt5) last_get) h0 h1 fun y hy => ?_
          refine ⟨small_len (by omega), hB, fr5.trans (Gw.one.fr.trans fr6), fr6.get (Nat.ne_of_gt hlt) (Gw.one.get ha5), by simp [hl5], fun z hz => ?_⟩
          rcases List.mem_append.mp hz with hz | hz
          · exact hc5 z hz
          · rw [List.mem_singleton.mp hz]
            rcases List.mem_cons.mp hy with rfl | hy
            · exact .inr (hc _ hdm)
            · rw [List.mem_singleton.mp hy]; exact .inl rfl
        · repeat (first | walk_at "dl" | walk_at "dm")
          refine (run_tupL last_get).mpr ?_
          repeat (first | walk_at "dl" | walk_at "dm")
          refine ⟨Nat.le_of_ble_eq_true rfl, ?_⟩
          repeat (first | walk_at "dl" | walk_at "dm")
          exact h _ _ (.made hx (by omega) fun p hp hz => (hc5 p hp).resolve_left (by rintro rfl; cases hz)) (Gw.one.bag hB) (fr5.trans Gw.one.fr)
/-! ### nodes -/
inductive Node : Nat → D → Prop
  | link {n : Nat} {x : Str} : txOk x = true → Node n (.tup [.str "link", .str x])
  | file {n : Nat} {c : D} {i : Int} : Cont n c → 0 ≤ i → i < 8 → Node n (.tup [.str "file", c, .int i])
  | folder {n : Nat} {i : Int} : 0 ≤ i → i < 8 → Node n (.tup [.str "folder", .int i])
def nodeB : Env → M Fl :=
    seqM (parM 2 3 (consA (clM (takeM) (consA (getv 0) (consA (cst (.int 6)) (nilA)))) (consA (clM (takeM) (consA (getv 0) (consA (cst (.int 8)) (nilA)))) (nilA))))
    (seqM (ifS (tstM (binM eqD (getv 2) (cst (.int 0)))) (retM (tupM (consA (cst (.str "link")) (consA (clM (textM) (consA (getv 0) (nilA))) (nilA))))) (nxM))
    (retM (ifM (tstM (binM ltD (getv 2) (cst (.int 3)))) (tupM (consA (cst (.str "file")) (consA (clM (contentM 40) (consA (getv 0) (consA (getv 1) (nilA)))) (consA (getv 3) (nilA))))) (tupM (consA (cst (.str "folder")) (consA (getv 3) (nilA)))))))
def nodeM : List D → M D := fnM 4 nodeB
theorem node_run {n : Nat} (hn : n < 40) (hb : Bag S b) (h : ∀ d S', Node n d → Bag S' b → Fr b S S' → Q d S') : Run (nodeM [.ref b, .int (n : Int)]) S Q := by
  unfold nodeM nodeB
  repeat (first | walk_at "dl" | walk_at "dm")
  refine take_run hb (by decide) (by decide) fun w S1 w0 w1 hB fr => ?_
  repeat (first | walk_at "dl" | walk_at "dm")
  refine take_run hB (by decide) (by decide) fun k S2 k0 k1 hB fr2 => ?_
  repeat (first | walk_at "dl" | walk_at "dm")
  refine ite_eq (fun hw => ?_) (fun hw => ?_)
  · repeat (first | walk_at "dl" | walk_at "dm")
    refine text_run hB fun x S' hx hB fr' => ?_
    repeat (first | walk_at "dl" | walk_at "dm")
    refine ⟨Nat.le_of_ble_eq_true rfl, ?_⟩
    repeat (first | walk_at "dl" | walk_at "dm")
    exact h _ _ (.link hx) hB ((fr.trans fr2).trans fr')
  · repeat (first | walk_at "dl" | walk_at "dm")
    refine ite_b (fun hw => ?_) (fun hw => ?_)
    · repeat (first | walk_at "dl" | walk_at "dm")
      refine content_run n 40 S2 _ hn hB fun c S' hc hB fr' => ?_
      repeat (first | walk_at "dl" | walk_at "dm")
      refine ⟨Nat.le_of_ble_eq_true rfl, ?_⟩
      repeat (first | walk_at "dl" | walk_at "dm")
      exact h _ _ (.file hc k0 k1) hB ((fr.trans fr2).trans fr')
    · repeat (first | walk_at "dl" | walk_at "dm")
      refine ⟨Nat.le_of_ble_eq_true rfl, ?_⟩
      repeat (first | walk_at "dl" | walk_at "dm")
      exact h _ _ (.folder k0 k1) hB (fr.trans fr2)
end
/-! ### how they are shown -/
def bC : Nat → Nat
  | 0 => 30
  | n + 1 => 3 * ((3 * (bC n + 2) + 3) + 2) + 3
theorem bC_ge : ∀ n, 30 ≤ bC n
  | 0 => Nat.le_refl _
  | n + 1 => by
    have := bC_ge n
    show 30 ≤ 3 * ((3 * (bC n + 2) + 3) + 2) + 3
    omega
theorem cont_pz : ∀ (n : Nat) (d : D), Cont n d → Pz (2 * n) (bC n) d
  | n, _, .str hx => (pz_str hx).mono (Nat.zero_le _) (bC_ge n)
  | _, _, .made (n := n) (x := x) (ps := ps) hx hl hp => by
    have hb := bC_ge n
    have inner : Pz (2 * n + 1) (3 * (bC n + 2) + 3) (.tup ps) := pz_tup (fun d hd => by
      by_cases hz : isNone d = true
      · rw [none_of hz]
        exact pz_non.mono (Nat.zero_le _) (by omega)
      · exact cont_pz n d (hp d hd (by simpa using hz))) hl
    refine pz_tup (h := 2 * n + 1) (n := 3) (fun d hd => ?_) (Nat.le_refl _)
    rcases List.mem_cons.mp hd with rfl | hd
    · exact (pz_str (x := "made") (by decide +kernel)).mono (Nat.zero_le _) (by omega)
    rcases List.mem_cons.mp hd with rfl | hd
    · exact (pz_str hx).mono (Nat.zero_le _) (by omega)
    rw [List.mem_singleton.mp hd]
    exact inner
theorem node_pz {n : Nat} {d : D} (k : Node n d) : Pz (2 * n + 1) (3 * (bC n + 2) + 3) d := by
  have hb := bC_ge n
  cases k with
  | link hx =>
    refine (pz_tup (h := 2 * n) (b := bC n) (n := 3) (fun d hd => ?_) (by decide : 2 ≤ 3))
    rcases List.mem_cons.mp hd with rfl | hd
    · exact (pz_str (x := "link") (by decide +kernel)).mono (Nat.zero_le _) (by omega)
    rw [List.mem_singleton.mp hd]
    exact (pz_str hx).mono (Nat.zero_le _) (by omega)
  | file hc h0 h1 =>
    refine (pz_tup (h := 2 * n) (b := bC n) (n := 3) (fun d hd => ?_) (by decide : 3 ≤ 3))
    rcases List.mem_cons.mp hd with rfl | hd
    · exact (pz_str (x := "file") (by decide +kernel)).mono (Nat.zero_le _) (by omega)
    rcases List.mem_cons.mp hd with rfl | hd
    · exact cont_pz n _ hc
    rw [List.mem_singleton.mp hd]
    exact (pz_int h0 (by omega)).mono (Nat.zero_le _) (by omega)
  | folder h0 h1 =>
    refine (pz_tup (h := 2 * n) (b := bC n) (n := 3) (fun d hd => ?_) (by decide : 2 ≤ 3))
    rcases List.mem_cons.mp hd with rfl | hd
    · exact (pz_str (x := "folder") (by decide +kernel)).mono (Nat.zero_le _) (by omega)
    rw [List.mem_singleton.mp hd]
    exact (pz_int h0 (by omega)).mono (Nat.zero_le _) (by omega)

open PySem PySem.Spec PyProof.Rows L2

/-! ### sizes -/
theorem allOf_int : ∀ ks : List Int, allOf unInt (ks.map D.int) = some ks
  | [] => rfl
  | k :: ks => by
    show allOf unInt (.int k :: ks.map D.int) = _
    unfold allOf
    rw [allOf_int ks]
    rfl
theorem run_sumI {S : Sto} {Q : D → Sto → Prop} {n : Nat} {ks : List Int} (h : S[n]? = some (.lst (ks.map D.int))) : Run (sumD [.ref n]) S Q ↔ Q (.int ks.sum) S := run_ok (by
  unfold sumD seqL
  simp only [h]
  rw [allOf_int])
def szB (rec_ : List D → M D) : Env → M Fl :=
    seqM (ifS (tstM (isiM .tStr (getv 0))) (retM (cst (.int 1))) (nxM))
    (retM (binM addD (cst (.int 1)) (clM sumD (consA (lcM [1] (itAny (binM ixD (getv 0) (cst (.int 2)))) (gNm 1) (tstM (binM notNoneD (getv 1) (cst .non))) (clM rec_ (consA (getv 1) (nilA)))) (nilA)))))
def szM : Nat → List D → M D
  | 0 => fun _ => stuck
  | n + 1 => fnM 2 (szB (szM n))
def SzIs (n : Nat) (d : D) (k : Int) : Prop := ∀ (f : Nat) (S : Sto) (Q : D → Sto → Prop), n < f → (∀ S', Gw S S' → Q (.int k) S') → Run (szM f [d]) S Q
inductive SzA (n : Nat) : List D → List Int → Prop
  | nil : SzA n [] []
  | non {ps : List D} {ks : List Int} : SzA n ps ks → SzA n (.non :: ps) ks
  | cons {p : D} {ps : List D} {k : Int} {ks : List Int} : isNone p = false → SzIs n p k → SzA n ps ks → SzA n (p :: ps) (k :: ks)
theorem sz_str {x : Str} {n : Nat} : SzIs n (.str x) 1 := fun f S Q hf h => by
  obtain ⟨f, rfl⟩ : ∃ g, f = g + 1 := ⟨f - 1, by omega⟩
  unfold szM szB
  repeat (first | walk_at "dl" | walk_at "dm")
  refine run_isi.mpr ?_
  repeat (first | walk_at "dl" | walk_at "dm")
  refine ⟨.tStr, rfl, ?_⟩
  repeat (first | walk_at "dl" | walk_at "dm")
  refine ite_t rfl ?_
  repeat (first | walk_at "dl" | walk_at "dm")
  exact h S Gw.refl
theorem sz_made {n : Nat} {a c : D} {ps : List D} {ks : List Int} (hl : ps.length ≤ 1000) (k : SzA n ps ks) : SzIs (n + 1) (.tup [a, c, .tup ps]) (1 + ks.sum) := fun f S Q hf h => by
  obtain ⟨f, rfl⟩ : ∃ g, f = g + 1 := ⟨f - 1, by omega⟩
  unfold szM szB
  repeat (first | walk_at "dl" | walk_at "dm")
  refine run_isi.mpr ?_
  repeat (first | walk_at "dl" | walk_at "dm")
  refine ⟨.tTuple, rfl, ?_⟩
  repeat (first | walk_at "dl" | walk_at "dm")
  refine ite_f (by decide) ?_
  repeat (first | walk_at "dl" | walk_at "dm")
  refine comp_tup (xs := ps) (fun i acc S' => Gw S S' ∧ ∃ ks1 ks2, acc = ks1.map D.int ∧ SzA n (ps.drop i) ks2 ∧ ks = ks1 ++ ks2 ∧ ks1.length ≤ i) ⟨Gw.refl, [], ks, rfl, k, rfl, Nat.le_refl _⟩ (fun i acc S1 d hd ⟨g, ks1, ks2, ea, hs, ek, el⟩ => ?_) (fun acc S1 ⟨g, ks1, ks2, ea, hs, ek, el⟩ => ?_)
  · obtain ⟨hi, rfl⟩ := List.getElem?_eq_some_iff.mp hd
    rw [List.drop_eq_getElem_cons hi] at hs
    generalize ps[i] = p at *
    repeat (first | walk_at "dl" | walk_at "dm")
    cases hs with
    | non hs =>
      refine ite_f (by decide) ?_
      exact ⟨g, ks1, _, ea, hs, ek, by omega⟩
    | cons hp hz hs =>
      rename_i k' ks'
      refine ite_t (by rw [hp]; rfl) ?_
      repeat (first | walk_at "dl" | walk_at "dm")
      refine hz f S1 _ (by omega) fun S2 g2 => ?_
      refine ⟨small_len (by rw [ea, List.length_map]; omega), g.trans g2, ks1 ++ [k'], ks', by rw [ea, List.map_append]; rfl, hs, by rw [ek]; simp, by simp; omega⟩
  · rw [List.drop_length] at hs
    cases hs
    rw [List.append_nil] at ek
    subst ek; subst ea
    repeat (first | walk_at "dl" | walk_at "dm")
    refine (run_sumI last_get).mpr ?_
    repeat (first | walk_at "dl" | walk_at "dm")
    exact h _ (g.trans Gw.one)
def kC : Nat → Int
  | 0 => 1
  | n + 1 => 1 + 3 * kC n
theorem kC_ge : ∀ n, 1 ≤ kC n
  | 0 => Int.le_refl _
  | n + 1 => by
    have := kC_ge n
    show 1 ≤ 1 + 3 * kC n
    omega
theorem sza_of {n : Nat} {B : Int} (hB : 0 ≤ B) : ∀ {ps : List D}, (∀ p ∈ ps, isNone p = false → ∃ k, 0 ≤ k ∧ k ≤ B ∧ SzIs n p k) → ∃ ks, SzA n ps ks ∧ 0 ≤ ks.sum ∧ ks.sum ≤ (ps.length : Int) * B
  | [], _ => ⟨[], .nil, Int.le_refl _, by simp⟩
  | p :: ps, h => by
    obtain ⟨ks, a, s0, s1⟩ := sza_of hB (ps := ps) fun q hq => h q (List.mem_cons_of_mem _ hq)
    have e : ((p :: ps).length : Int) * B = (ps.length : Int) * B + B := by
      rw [List.length_cons, Int.natCast_add, Int.add_mul]
      simp
    rw [e]
    by_cases hz : isNone p = true
    · rw [none_of hz]
      exact ⟨ks, .non a, s0, by omega⟩
    · have hz' : isNone p = false := by simpa using hz
      obtain ⟨k, k0, k1, hk⟩ := h p (List.mem_cons_self ..) hz'
      exact ⟨k :: ks, .cons hz' hk a, by rw [List.sum_cons]; omega, by rw [List.sum_cons]; omega⟩
theorem cont_sz : ∀ (n : Nat) (d : D), Cont n d → ∃ k, 0 ≤ k ∧ k ≤ kC n ∧ SzIs n d k
  | n, _, .str hx => ⟨1, by decide, kC_ge n, sz_str⟩
  | _, _, .made (n := n) (x := x) (ps := ps) hx hl hp => by
    have g := kC_ge n
    obtain ⟨ks, a, s0, s1⟩ := sza_of (n := n) (B := kC n) (by omega) fun p hp' hz => cont_sz n p (hp p hp' hz)
    have s2 : (ps.length : Int) * kC n ≤ 3 * kC n := Int.mul_le_mul_of_nonneg_right (by omega) (by omega)
    exact ⟨1 + ks.sum, by omega, by show _ ≤ 1 + 3 * kC n; omega, sz_made (by omega) a⟩
theorem SzIs.mono {n m : Nat} {d : D} {k : Int} (h : SzIs n d k) (hm : n ≤ m) : SzIs m d k := fun f S Q hf q => h f S Q (by omega) q

open PySem PySem.Spec PyProof.Rows L2

/-! ### more runs -/
section
variable {S : Sto} {r : Env} {Q : D → Sto → Prop} {ma mb mc mo : Env → M D} {mA : Env → M (List D)}
theorem run_needM {f : Sto → Bool} {QU : Unit → Sto → Prop} : Run (needM f) S QU ↔ f S = true ∧ QU () S := by
  by_cases h : f S = true
  · exact (run_ok (by unfold needM; rw [if_pos h])).trans ⟨fun z => ⟨h, z⟩, fun z => z.2⟩
  · exact ⟨fun ⟨_, _, e, _⟩ => (by unfold needM at e; rw [if_neg h] at e; cases e), fun z => absurd z.1 h⟩
theorem run_mt {T : String} {op : D → List D → M D} : Run (mtM T op mo mA r) S Q ↔ Run (mo r) S fun d S1 => tyD T S1 d = true ∧ Run (mA r) S1 fun ds S2 => Run (op d ds) S2 Q := by
  unfold mtM
  simp only [run_bnd, run_needM]
theorem run_split {a b : Str} : Run (splitD (.str a) [.str b]) S Q ↔ ((b.length == 0) = false ∧ a.length + 2 ≤ sizeLine) ∧ Q (.ref S.length) (S ++ [.lst ((Txt.split a b).map D.str)]) := by unfold splitD; rw [run_need, run_newO]
theorem allOf_str : ∀ ks : List Str, allOf unStr (ks.map D.str) = some ks
  | [] => rfl
  | k :: ks => by
    show allOf unStr (.str k :: ks.map D.str) = _
    unfold allOf
    rw [allOf_str ks]
    rfl
theorem run_join {a : Str} {n : Nat} {ys : List Str} (h : S[n]? = some (.lst (ys.map D.str))) (hz : (ys.map (·.length)).sum + ys.length * a.length ≤ 16777216) : Run (joinD (.str a) [.ref n]) S Q ↔ Q (.str (Txt.join a ys)) S := run_ok (by
  unfold joinD itemsD seqL
  simp only [h, allOf_str]
  rw [if_pos hz])
theorem run_insert {n : Nat} {i : Int} {d : D} {xs : List D} (h : S[n]? = some (.lst xs)) (hz : xs.length < sizeLine) (h0 : 0 ≤ i) (h1 : i < 2 ^ 63) : Run (insertD (.ref n) [.int i, d]) S Q ↔ Q .non (S.set n (.lst (xs.take i.toNat ++ [d] ++ xs.drop i.toNat))) := run_ok (by
  unfold insertD
  simp only [h]
  rw [if_pos ⟨hz, h0, h1⟩])
theorem run_addS {a b : Str} : Run (addD (.str a) (.str b)) S Q ↔ a.length + b.length ≤ sizeLine ∧ Q (.str (a ++ b)) S := by unfold addD; rw [run_need, run_pure]
theorem run_addT {a b : List D} : Run (addD (.tup a) (.tup b)) S Q ↔ a.length + b.length ≤ sizeLine ∧ Q (.tup (a ++ b)) S := by unfold addD; rw [run_need, run_pure]
theorem run_addL {n m : Nat} {a b : List D} (hn : S[n]? = some (.lst a)) (hm : S[m]? = some (.lst b)) (hz : a.length + b.length ≤ sizeLine) : Run (addD (.ref n) (.ref m)) S Q ↔ Q (.ref S.length) (S ++ [.lst (a ++ b)]) := run_ok (by
  unfold addD
  simp only [hn, hm]
  rw [if_pos hz]
  rfl)
theorem run_mulL {n : Nat} {a : List D} {k : Int} (hn : S[n]? = some (.lst a)) (h0 : 0 ≤ k) (h1 : k < 2 ^ 63) (hz : a.length * k.toNat ≤ sizeLine) : Run (mulD (.ref n) (.int k)) S Q ↔ Q (.ref S.length) (S ++ [.lst (List.replicate k.toNat a).flatten]) := run_ok (by
  unfold mulD
  simp only [hn]
  rw [if_pos ⟨by omega, h1, hz⟩]
  rfl)
theorem run_slT {xs : List D} {lo hi : Option Int} : Run (slD (.tup xs) lo hi) S Q ↔ Q (.tup (cutL xs lo hi)) S := run_ok rfl
theorem run_slS {z : Str} {lo hi : Option Int} (hz : z.length ≤ sizeLine) : Run (slD (.str z) lo hi) S Q ↔ Q (.str (cutS z lo hi)) S := run_ok (by unfold slD; simp only []; rw [if_pos hz])
theorem run_slL {n : Nat} {xs : List D} {lo hi : Option Int} (h : S[n]? = some (.lst xs)) : Run (slD (.ref n) lo hi) S Q ↔ Q (.ref S.length) (S ++ [.lst (cutL xs lo hi)]) := run_ok (by
  unfold slD seqL
  simp only [h]
  rfl)
theorem run_ixS {z : Str} {i : Int} {c : Nat} (hz : z.length ≤ sizeLine) (hi : atI z.cps.toList i = some c) : Run (ixD (.str z) (.int i)) S Q ↔ Q (.str ⟨#[c]⟩) S := run_ok (by
  unfold ixD
  simp only [hi]
  rw [if_pos hz])
theorem run_gTp {is : List Nat} {ds : List D} {QE : Env → Sto → Prop} (h : ds.length = is.length) : Run (gTp is (.tup ds) r) S QE ↔ QE (setAll r is ds) S := by
  unfold gTp
  simp only [if_pos h]
  exact run_pure
theorem run_st {ms : Env → M D} : Run (stM ma ms r) S Q ↔ Run (ma r) S fun d S1 => Run (ms r) S1 fun i S2 => Run (stepD d i) S2 Q := by unfold stM; simp only [run_bnd]
theorem run_step1 {n : Nat} {xs : List D} (h : S[n]? = some (.lst xs)) : Run (stepD (.ref n) (.int 1)) S Q ↔ Q (.ref S.length) (S ++ [.lst xs]) := run_ok (by
  unfold stepD seqL
  simp only [h]
  rfl)
theorem run_stepB {n : Nat} {xs : List D} (h : S[n]? = some (.lst xs)) : Run (stepD (.ref n) (.int (-1))) S Q ↔ Q (.ref S.length) (S ++ [.lst xs.reverse]) := run_ok (by
  unfold stepD seqL
  simp only [h]
  rfl)
theorem run_negI {i : Int} : Run (negD (.int i)) S Q ↔ Q (.int (-i)) S := run_pure
theorem run_dnew : Run (dnewM r) S Q ↔ Q (.ref S.length) (S ++ [.dK []]) := run_newO
theorem run_dictC {n : Nat} {kvs : List (Key × D)} (h : S[n]? = some (.dK kvs)) : Run (dictD [.ref n]) S Q ↔ Q (.ref S.length) (S ++ [.dK kvs]) := run_ok (by
  unfold dictD
  simp only [h]
  rfl)
theorem run_dictP {n : Nat} {xs : List D} {kvs : List (Key × D)} (h : S[n]? = some (.lst xs)) (hk : allOf unPair xs = some kvs) : Run (dictD [.ref n]) S Q ↔ Q (.ref S.length) (S ++ [.dK (mergeKD [] kvs)]) := run_ok (by
  unfold dictD
  simp only [h, hk]
  rfl)
theorem run_dget2 {md mk mx : Env → M D} : Run (dget2M md mk mx r) S Q ↔ Run (md r) S fun d S1 => tyD "dict" S1 d = true ∧ Run (mk r) S1 fun k S2 => Run (mx r) S2 fun x S3 => Run (dgetD d k x) S3 Q := by
  unfold dget2M
  simp only [run_bnd, run_needM]
theorem run_dget {n : Nat} {kvs : List (Key × D)} {x : D} {k : D} {kk : Key} (h : S[n]? = some (.dK kvs)) (hk : unKey k = some kk) : Run (dgetD (.ref n) k x) S Q ↔ Q ((valD kvs kk).getD x) S := run_ok (by unfold dgetD; simp only [hk, h])
theorem run_chM {f g : D → D → M D} : Run (chM f g ma mb mc r) S Q ↔ Run (ma r) S fun x S1 => Run (mb r) S1 fun y S2 => Run (f x y) S2 fun z S3 => Run (asB z) S3 fun k S4 => if k = true then Run (mc r) S4 fun w S5 => Run (g y w) S5 Q else Q (.bl false) S4 := by
  unfold chM
  simp only [run_bnd, run_ite, run_pure]
theorem allOf_bl : ∀ ks : List Bool, allOf unBl (ks.map D.bl) = some ks
  | [] => rfl
  | k :: ks => by
    show allOf unBl (.bl k :: ks.map D.bl) = _
    unfold allOf
    rw [allOf_bl ks]
    rfl
theorem run_allB {n : Nat} {ks : List Bool} (h : S[n]? = some (.lst (ks.map D.bl))) : Run (allD [.ref n]) S Q ↔ Q (.bl (ks.all id)) S := run_ok (by
  unfold allD seqL
  simp only [h]
  rw [allOf_bl])
theorem run_isBl {a b : Bool} : Run (isBlD (.bl a) (.bl b)) S Q ↔ Q (.bl (decide (a = b))) S := run_pure
theorem run_notBl {a b : Bool} : Run (notBlD (.bl a) (.bl b)) S Q ↔ Q (.bl (!decide (a = b))) S := run_pure
theorem run_inS {x z : Str} : Run (memD (.str x) (.str z)) S Q ↔ Q (.bl (!(Builtin.Str.occurrences z x 0 z.length 1).isEmpty)) S := by unfold memD; exact run_ofB rfl
/-! cuts -/
theorem cut_to {α : Type} {xs : List α} {i : Int} (h : 0 ≤ i) : cutL xs none (some i) = xs.take i.toNat := by
  unfold cutL HT.sIx
  simp only []
  rw [if_neg (by omega)]
  simp
theorem cut_from {α : Type} {xs : List α} {i : Int} (h : 0 ≤ i) : cutL xs (some i) none = xs.drop i.toNat := by
  unfold cutL HT.sIx
  simp only []
  rw [if_neg (by omega)]
  by_cases hl : i.toNat ≤ xs.length
  · rw [Nat.min_eq_left hl]
    exact List.take_of_length_le (by rw [List.length_drop]; exact Nat.le_refl _)
  · rw [Nat.min_eq_right (by omega), List.drop_length, List.drop_eq_nil_of_le (by omega)]
    simp
theorem cutS_list (z : Str) (lo hi : Option Int) : (cutS z lo hi).cps.toList = cutL z.cps.toList lo hi := by
  unfold cutS cutL Str.length
  simp
end
/-- a name -/
def lw (c : Nat) : Bool := decide (97 ≤ c) && decide (c ≤ 122)
def nmOk (x : Str) : Bool := decide (1 ≤ x.length) && decide (x.length ≤ 8) && x.cps.toList.all lw
def low : Str := "abcdefghijklmnopqrstuvwxyz"
theorem low_ok : low.cps.toList.all lw = true ∧ low.cps.toList.length = 26 ∧ low.length = 26 := by decide +kernel
theorem low_in : ∀ c, lw c = true → (!(Builtin.Str.occurrences low ⟨#[c]⟩ 0 low.length 1).isEmpty) = true := by
  intro c h
  unfold lw at h
  rw [Bool.and_eq_true] at h
  have h1 := of_decide_eq_true h.1
  have h2 := of_decide_eq_true h.2
  have k : ∀ j : Fin 26, (!(Builtin.Str.occurrences low ⟨#[97 + j.val]⟩ 0 low.length 1).isEmpty) = true := by decide +kernel
  have := k ⟨c - 97, by omega⟩
  have e : 97 + (c - 97) = c := by omega
  simpa [e] using this
theorem low_at {i : Int} (h0 : 0 ≤ i) (h1 : i < 26) : ∃ c, atI low.cps.toList i = some c ∧ lw c = true := by
  have e : (i.toNat : Int) = i := Int.toNat_of_nonneg h0
  have hl : i.toNat < low.cps.toList.length := by rw [low_ok.2.1]; omega
  refine ⟨low.cps.toList[i.toNat], ?_, List.all_eq_true.mp low_ok.1 _ (List.getElem_mem _)⟩
  have a := atI_nat (xs := low.cps.toList) (List.getElem?_eq_getElem hl)
  rwa [e] at a

open PySem PySem.Spec PyProof.Rows L2

theorem join_cs : ∀ cs : List Nat, (Str.join (Str.ofString "") (cs.map fun c => (⟨#[c]⟩ : Str))).cps.toList = cs
  | [] => rfl
  | [c] => rfl
  | c :: d :: r => by
    have ih := join_cs (d :: r)
    show ((⟨#[c]⟩ : Str) ++ Str.ofString "" ++ Str.join (Str.ofString "") ((d :: r).map fun c => (⟨#[c]⟩ : Str))).cps.toList = _
    rw [Str.cps_append, Str.cps_append, Array.toList_append, Array.toList_append, ih]
    rfl
theorem txt_join_cs (cs : List Nat) : (Txt.join (Str.ofString "") (cs.map fun c => (⟨#[c]⟩ : Str))).cps.toList = cs := by
  unfold Txt.join
  rw [StrLaws.glued_eq_join]
  exact join_cs cs
theorem len_list (x : Str) : x.length = x.cps.toList.length := by unfold Str.length; simp
def wds : List Str := Txt.split ((Str.ofString "file link folder gone cleared opaque keep made write delete clear copy rights run path arg text stage") ++ (Str.ofString " a b ab zz all content")) (Str.ofString " ")
theorem wds_ok : wds.length = 24 ∧ wds.all nmOk = true := by decide +kernel
def namesB : Env → M Fl :=
    seqM (asgM (cst (.str "abcdefghijklmnopqrstuvwxyz")) (gNm 2))
    (seqM (asgM (cst (.str "file link folder gone cleared opaque keep made write delete clear copy rights run path arg text stage")) (gNm 3))
    (seqM (asgM (mtM "str" splitD (binM addD (getv 3) (cst (.str " a b ab zz all content"))) (consA (cst (.str " ")) (nilA))) (gNm 3))
    (seqM (asgM (tupM (consA (clM (takeM) (consA (getv 0) (consA (cst (.int 4)) (nilA)))) (consA (clM (takeM) (consA (getv 0) (consA (cst (.int 24)) (nilA)))) (nilA)))) (gTp [4, 5]))
    (seqM (asgM (mtM "str" joinD (cst (.str "")) (consA (lcM [8] (itRng1 (consA (binM addD (cst (.int 1)) (clM (takeM) (consA (getv 0) (consA (cst (.int 7)) (nilA))))) (nilA))) (gNm 8) (yesM) (binM ixD (getv 2) (clM (takeM) (consA (getv 0) (consA (cst (.int 26)) (nilA)))))) (nilA))) (gNm 6))
    (seqM (asgM (clM (takeM) (consA (getv 0) (consA (binM addD (clM lenD (consA (getv 6) (nilA))) (cst (.int 1))) (nilA)))) (gNm 7))
    (seqM (ifS (tstM (binM eqD (getv 4) (cst (.int 0)))) (retM (slM (binM addD (slM (getv 3) (someP (getv 5)) (noP)) (slM (getv 3) (noP) (someP (getv 5)))) (noP) (someP (getv 1)))) (nxM))
    (seqM (ifS (tstM (binM eqD (getv 4) (cst (.int 1)))) (retM (lcM [8] (itRng1 (consA (getv 1) (nilA))) (gNm 8) (yesM) (binM ixD (getv 2) (binM modD (binM addD (getv 5) (binM mulD (cst (.int 3)) (getv 8))) (cst (.int 26)))))) (nxM))
    (retM (lcM [8] (itRng1 (consA (getv 1) (nilA))) (gNm 8) (yesM) (binM addD (binM addD (slM (getv 6) (noP) (someP (getv 7))) (binM ixD (getv 2) (binM modD (binM addD (getv 5) (binM mulD (cst (.int 3)) (getv 8))) (cst (.int 26))))) (slM (getv 6) (someP (getv 7)) (noP))))))))))))
def namesM : List D → M D := fnM 9 namesB
/-- a list of names -/
def Nms (k : Nat) (xs : List D) : Prop := xs.length = k ∧ ∀ d ∈ xs, ∃ x, d = .str x ∧ nmOk x = true
theorem small_eq {n k : Nat} (h : n ≤ k) (hk : k ≤ 1000) : n < sizeLine := small_len (Nat.le_trans h hk)
theorem names_run {S : Sto} {b : Nat} {k : Nat} {Q : D → Sto → Prop} (hk : 0 < k) (hk2 : k ≤ 24) (hb : Bag S b) (h : ∀ n xs S', S'[n]? = some (.lst xs) → n ≠ b → S.length ≤ n → Nms k xs → Bag S' b → Fr b S S' → Q (.ref n) S') : Run (namesM [.ref b, .int (k : Int)]) S Q := by
  unfold namesM namesB
  repeat (first | walk_at "dl" | walk_at "dm")
  refine run_mt.mpr ?_
  repeat (first | walk_at "dl" | walk_at "dm")
  refine run_addS.mpr ⟨Nat.le_of_ble_eq_true rfl, ⟨rfl, ?_⟩⟩
  repeat (first | walk_at "dl" | walk_at "dm")
  refine run_split.mpr ⟨⟨by decide +kernel, Nat.le_of_ble_eq_true rfl⟩, ?_⟩
  show Run _ (S ++ [.lst (wds.map D.str)]) _
  have fr0 : Fr b S (S ++ [.lst (wds.map D.str)]) := Gw.one.fr
  have hw0 : (S ++ [O.lst (wds.map D.str)])[S.length]? = some (.lst (wds.map D.str)) := last_get
  have hB0 : Bag (S ++ [.lst (wds.map D.str)]) b := Gw.one.bag hb
  have hbs : S.length ≠ b := Nat.ne_of_gt hb.lt
  have hle : S.length < (S ++ [O.lst (wds.map D.str)]).length := by simp
  generalize S ++ [O.lst (wds.map D.str)] = S0 at fr0 hw0 hB0 hle
  repeat (first | walk_at "dl" | walk_at "dm")
  refine take_run hB0 (by decide) (by decide) fun way S1 w0 w1 hB1 fr1 => ?_
  repeat (first | walk_at "dl" | walk_at "dm")
  refine take_run hB1 (by decide) (by decide) fun tn S2 t0 t1 hB2 fr2 => ?_
  repeat (first | walk_at "dl" | walk_at "dm")
  refine ⟨Nat.le_of_ble_eq_true rfl, (run_gTp rfl).mpr ?_⟩
  repeat (first | walk_at "dl" | walk_at "dm")
  refine run_mt.mpr ?_
  repeat (first | walk_at "dl" | walk_at "dm")
  refine ⟨rfl, ?_⟩
  repeat (first | walk_at "dl" | walk_at "dm")
  refine take_run hB2 (by decide) (by decide) fun m S3 m0 m1 hB3 fr3 => ?_
  repeat (first | walk_at "dl" | walk_at "dm")
  refine run_itR1 (by omega) (by omega) ?_
  rw [size_rng]
  have fr13 := (fr1.trans fr2).trans fr3
  refine comp_rng (fun i acc S' => Bag S' b ∧ Fr b S0 S' ∧ ∃ cs : List Nat, acc = (cs.map fun c => (⟨#[c]⟩ : Str)).map D.str ∧ cs.length = i ∧ cs.all lw = true) ⟨hB3, fr13, [], rfl, rfl, rfl⟩ (fun i acc S4 hi ⟨hB, fr, cs, ea, hl, hc⟩ => ?_) (fun acc S4 ⟨hB4, fr4, cs, ea, hl, hc⟩ => ?_)
  · repeat (first | walk_at "dl" | walk_at "dm")
    refine ite_t rfl ?_
    repeat (first | walk_at "dl" | walk_at "dm")
    refine take_run hB (by decide) (by decide) fun n S5 n0 n1 hB5 fr5 => ?_
    obtain ⟨c, hc1, hc2⟩ := low_at n0 n1
    refine (run_ixS (z := low) (Nat.le_of_ble_eq_true rfl) hc1).mpr ?_
    subst ea
    refine ⟨small_len (by simp; omega), hB5, fr.trans fr5, cs ++ [c], by simp, by simp [hl], by simp [hc, hc2]⟩
  · subst ea
    repeat (first | walk_at "dl" | walk_at "dm")
    have hsum : ((cs.map fun c => (⟨#[c]⟩ : Str)).map (·.length)).sum + (cs.map fun c => (⟨#[c]⟩ : Str)).length * (Str.ofString "").length ≤ 16777216 := by
      have e1 : (cs.map fun c => (⟨#[c]⟩ : Str)).map (·.length) = cs.map fun _ => 1 := by rw [List.map_map]; rfl
      have e2 : (Str.ofString "").length = 0 := rfl
      have e3 : ∀ l : List Nat, (l.map fun _ => 1).sum = l.length := by
        intro l
        induction l with
        | nil => rfl
        | cons a l ih => simp [ih]; omega
      rw [e1, e2, e3]
      omega
    refine (run_join last_get hsum).mpr ?_
    have hbase := txt_join_cs cs
    generalize Txt.join (Str.ofString "") (cs.map fun c => (⟨#[c]⟩ : Str)) = base at hbase
    have hbl : base.length = cs.length := by rw [len_list, hbase]
    have hB4' : Bag (S4 ++ [.lst ((cs.map fun c => (⟨#[c]⟩ : Str)).map D.str)]) b := Gw.one.bag hB4
    have fr4' : Fr b S0 (S4 ++ [.lst ((cs.map fun c => (⟨#[c]⟩ : Str)).map D.str)]) := fr4.trans Gw.one.fr
    generalize S4 ++ [O.lst ((cs.map fun c => (⟨#[c]⟩ : Str)).map D.str)] = S5 at hB4' fr4'
    repeat (first | walk_at "dl" | walk_at "dm")
    refine (run_lenS (by rw [hbl]; exact Nat.le_of_lt (small_len (by omega)))).mpr ?_
    repeat (first | walk_at "dl" | walk_at "dm")
    refine take_run hB4' (by omega) (by omega) fun at_ S6 a0 a1 hB6 fr6 => ?_
    have frA := fr0.trans (fr4'.trans fr6)
    have hw6 : S6[S.length]? = some (.lst (wds.map D.str)) := (fr4'.trans fr6).get hbs hw0
    have hb6 := hB6.lt
    have hl6 : S.length < S6.length := (List.getElem?_eq_some_iff.mp hw6).1
    repeat (first | walk_at "dl" | walk_at "dm")
    refine ite_eq (fun hz => ?_) (fun hz => ?_)
    · repeat (first | walk_at "dl" | walk_at "dm")
      refine (run_slL hw6).mpr ?_
      repeat (first | walk_at "dl" | walk_at "dm")
      refine (run_slL (Gw.one.get hw6)).mpr ?_
      have hlen : (wds.map D.str).length = 24 := by rw [List.length_map]; exact wds_ok.1
      rw [cut_from t0, cut_to t0]
      refine (run_addL (Gw.one.get last_get) last_get (by rw [List.length_drop, List.length_take, hlen]; exact Nat.le_of_lt (small_len (by omega)))).mpr ?_
      repeat (first | walk_at "dl" | walk_at "dm")
      refine (run_slL last_get).mpr ?_
      repeat (first | walk_at "dl" | walk_at "dm")
      rw [cut_to (by omega)]
      refine h _ _ _ last_get (by simp; omega) (by simp; omega) ⟨?_, fun d hd => ?_⟩ (Gw.one.bag (Gw.one.bag (Gw.one.bag (Gw.one.bag hB6)))) (frA.trans (((Gw.one.trans Gw.one).trans Gw.one).trans Gw.one).fr)
      · rw [List.length_take, List.length_append, List.length_drop, List.length_take, hlen]
        omega
      · have hd := List.mem_of_mem_take hd
        have hm : d ∈ wds.map D.str := by
          rcases List.mem_append.mp hd with hd | hd
          · exact List.mem_of_mem_drop hd
          · exact List.mem_of_mem_take hd
        obtain ⟨x, hx, rfl⟩ := List.mem_map.mp hm
        exact ⟨x, rfl, List.all_eq_true.mp wds_ok.2 x hx⟩
    · repeat (first | walk_at "dl" | walk_at "dm")
      have letter : ∀ (i : Int) (S : Sto) (Q : D → Sto → Prop), 0 ≤ i → (∀ c, lw c = true → Q (.str ⟨#[c]⟩) S) → Run (ixD (.str "abcdefghijklmnopqrstuvwxyz") (.int (i % 26))) S Q := fun i S Q hi q => by
        obtain ⟨c, hc1, hc2⟩ := low_at (Int.emod_nonneg i (by omega)) (Int.emod_lt_of_pos i (by omega))
        exact (run_ixS (z := low) (Nat.le_of_ble_eq_true rfl) hc1).mpr (q c hc2)
      have s3 : small64 3 = true := by decide
      refine ite_eq (fun hz => ?_) (fun hz => ?_)
      · repeat (first | walk_at "dl" | walk_at "dm")
        refine run_itR1 (by omega) (by omega) ?_
        rw [size_rng]
        refine comp_rng (fun i acc S' => S' = S6 ∧ Nms i acc) ⟨rfl, rfl, fun d hd => absurd hd (List.not_mem_nil)⟩ (fun i acc S7 hi ⟨e, hn⟩ => ?_) (fun acc S7 ⟨e, hn⟩ => ?_)
        · subst e
          repeat (first | walk_at "dl" | walk_at "dm")
          refine ite_t rfl ?_
          repeat (first | walk_at "dl" | walk_at "dm" | refine run_mulI.mpr ⟨by rw [s3]; rfl, ?_⟩ | refine run_modI.mpr ⟨by decide, ?_⟩)
          refine letter _ _ _ (by omega) fun c hc => ?_
          have hn1 := hn.1
          refine ⟨small_len (by omega), rfl, by simp [hn1], fun d hd => ?_⟩
          rcases List.mem_append.mp hd with hd | hd
          · exact hn.2 d hd
          · rw [List.mem_singleton.mp hd]
            exact ⟨_, rfl, by unfold nmOk; simp [Str.length, hc]⟩
        · subst e
          have e : ((k : Int).toNat) = k := by omega
          rw [e] at hn
          repeat (first | walk_at "dl" | walk_at "dm")
          exact h _ _ _ last_get (by omega) (by omega) hn (Gw.one.bag hB6) (frA.trans Gw.one.fr)
      · repeat (first | walk_at "dl" | walk_at "dm")
        refine run_itR1 (by omega) (by omega) ?_
        rw [size_rng]
        refine comp_rng (fun i acc S' => S' = S6 ∧ Nms i acc) ⟨rfl, rfl, fun d hd => absurd hd (List.not_mem_nil)⟩ (fun i acc S7 hi ⟨e, hn⟩ => ?_) (fun acc S7 ⟨e, hn⟩ => ?_)
        · subst e
          have hbz : base.length ≤ sizeLine := by rw [hbl]; exact Nat.le_of_lt (small_len (by omega))
          repeat (first | walk_at "dl" | walk_at "dm")
          refine ite_t rfl ?_
          repeat (first | walk_at "dl" | walk_at "dm")
          refine (run_slS hbz).mpr ?_
          repeat (first | walk_at "dl" | walk_at "dm" | refine run_mulI.mpr ⟨by rw [s3]; rfl, ?_⟩ | refine run_modI.mpr ⟨by decide, ?_⟩)
          refine letter _ _ _ (by omega) fun c hc2 => ?_
          have l1 : (cutS base none (some at_)).cps.toList = cs.take at_.toNat := by rw [cutS_list, hbase, cut_to a0]
          have l2 : (cutS base (some at_) none).cps.toList = cs.drop at_.toNat := by rw [cutS_list, hbase, cut_from a0]
          have n1 : (cutS base none (some at_)).length ≤ 7 := by rw [len_list, l1, List.length_take]; omega
          have n2 : (cutS base (some at_) none).length ≤ 7 := by rw [len_list, l2, List.length_drop]; omega
          refine run_addS.mpr ⟨?_, ?_⟩
          · have : (⟨#[c]⟩ : Str).length = 1 := rfl
            exact Nat.le_of_lt (small_len (by omega))
          repeat (first | walk_at "dl" | walk_at "dm")
          refine (run_slS hbz).mpr ?_
          have l3 : (cutS base none (some at_) ++ (⟨#[c]⟩ : Str)).length ≤ 8 := by
            rw [Str.length_append]
            have : (⟨#[c]⟩ : Str).length = 1 := rfl
            omega
          refine run_addS.mpr ⟨Nat.le_of_lt (small_len (by omega)), ?_⟩
          have hn1 := hn.1
          refine ⟨small_len (by omega), rfl, by simp [hn1], fun d hd => ?_⟩
          rcases List.mem_append.mp hd with hd | hd
          · exact hn.2 d hd
          · rw [List.mem_singleton.mp hd]
            refine ⟨_, rfl, ?_⟩
            have el : (cutS base none (some at_) ++ (⟨#[c]⟩ : Str) ++ cutS base (some at_) none).cps.toList = cs.take at_.toNat ++ [c] ++ cs.drop at_.toNat := by
              rw [Str.cps_append, Str.cps_append, Array.toList_append, Array.toList_append, l1, l2]
            unfold nmOk
            rw [len_list, el]
            have ha : (cs.take at_.toNat ++ [c] ++ cs.drop at_.toNat).all lw = true := by
              rw [List.all_append, List.all_append]
              simp only [Bool.and_eq_true]
              refine ⟨⟨?_, by simp [hc2]⟩, ?_⟩
              · exact List.all_eq_true.mpr fun x hx => List.all_eq_true.mp hc x (List.mem_of_mem_take hx)
              · exact List.all_eq_true.mpr fun x hx => List.all_eq_true.mp hc x (List.mem_of_mem_drop hx)
            rw [ha]
            have hl2 : (cs.take at_.toNat ++ [c] ++ cs.drop at_.toNat).length = cs.length + 1 := by
              simp only [List.length_append, List.length_take, List.length_drop, List.length_singleton]
              omega
            rw [hl2]
            have hc7 : cs.length ≤ 7 := by omega
            simp
            omega
        · subst e
          have e : ((k : Int).toNat) = k := by omega
          rw [e] at hn
          repeat (first | walk_at "dl" | walk_at "dm")
          exact h _ _ _ last_get (by omega) (by omega) hn (Gw.one.bag hB6) (frA.trans Gw.one.fr)

open PySem PySem.Spec PyProof.Rows L2

/-! ### a list in another order -/
def mixedB : Env → M Fl :=
    seqM (asgM (lstM (nilA)) (gNm 2))
    (seqM (forM_ (itAny (getv 1)) (gNm 3) (dropM (mtM "list" insertD (getv 2) (consA (clM (takeM) (consA (getv 0) (consA (binM addD (clM lenD (consA (getv 2) (nilA))) (cst (.int 1))) (nilA)))) (consA (getv 3) (nilA))))))
    (retM (getv 2)))
def mixedM : List D → M D := fnM 4 mixedB
theorem mixed_run {S : Sto} {b n : Nat} {xs : List D} {Q : D → Sto → Prop} (hb : Bag S b) (hn : S[n]? = some (.lst xs)) (hnb : n ≠ b) (hx : xs.length ≤ 1000)
    (h : ∀ m ys S', S'[m]? = some (.lst ys) → S.length ≤ m → ys.length = xs.length → (∀ d ∈ ys, d ∈ xs) → Bag S' b → Fr b S S' → Q (.ref m) S') : Run (mixedM [.ref b, .ref n]) S Q := by
  have hnl := (List.getElem?_eq_some_iff.mp hn).1
  have hbl := hb.lt
  unfold mixedM mixedB
  repeat (first | walk_at "dl" | walk_at "dm")
  refine ⟨Nat.le_of_ble_eq_true rfl, ?_⟩
  repeat (first | walk_at "dl" | walk_at "dm")
  refine run_itAL (xs := xs) (Gw.one.get hn) ?_
  refine for_lstS (xs := xs) (fun i r S' => Bag S' b ∧ Fr b S S' ∧ i ≤ xs.length ∧ ∃ ys v, S'[S.length]? = some (.lst ys) ∧ ys.length = i ∧ (∀ d ∈ ys, d ∈ xs) ∧ r = [some (.ref b), some (.ref n), some (.ref S.length), v])
    ⟨Gw.one.bag hb, Gw.one.fr, Nat.zero_le _, [], _, last_get, rfl, fun d hd => absurd hd (List.not_mem_nil), rfl⟩ (fun i r S' z => z.2.1.get hnb hn) (fun i r S' d hd ⟨hB, fr, hi, ys, v, hy, hl, hm, er⟩ => ?_) (fun r S' ⟨hB, fr, hi, ys, v, hy, hl, hm, er⟩ => ?_)
  · subst er
    have hi2 := (List.getElem?_eq_some_iff.mp hd).1
    repeat (first | walk_at "dl" | walk_at "dm")
    refine run_mt.mpr ?_
    repeat (first | walk_at "dl" | walk_at "dm")
    refine ⟨by unfold tyD; simp only [hy]; rfl, ?_⟩
    repeat (first | walk_at "dl" | walk_at "dm" | refine (run_lenL hy).mpr ?_)
    refine take_run hB (by omega) (by omega) fun k S1 k0 k1 hB1 fr1 => ?_
    have hy1 := fr1.get (Nat.ne_of_gt hbl) hy
    repeat (first | walk_at "dl" | walk_at "dm")
    refine (run_insert hy1 (small_len (by omega)) k0 (by omega)).mpr ?_
    repeat (first | walk_at "dl" | walk_at "dm")
    have frs : Fr b S (S1.set S.length (.lst (ys.take k.toNat ++ [d] ++ ys.drop k.toNat))) := ⟨by rw [List.length_set]; exact (fr.trans fr1).len, fun j hj hj2 => by
      rw [List.getElem?_set_ne (by omega)]
      exact (fr.trans fr1).at_ j hj hj2⟩
    refine ⟨hB1.set hbl, frs, by omega, _, _, List.getElem?_set_self (List.getElem?_eq_some_iff.mp hy1).1, ?_, fun e he => ?_, rfl⟩
    · simp only [List.length_append, List.length_take, List.length_drop, List.length_singleton]
      omega
    · rcases List.mem_append.mp he with he | he
      · rcases List.mem_append.mp he with he | he
        · exact hm e (List.mem_of_mem_take he)
        · rw [List.mem_singleton.mp he]
          exact List.mem_of_getElem? hd
      · exact hm e (List.mem_of_mem_drop he)
  · subst er
    repeat (first | walk_at "dl" | walk_at "dm")
    exact h _ ys S' hy (Nat.le_refl _) hl hm hB fr
/-! ### paths -/
def Pth (lo hi : Nat) (d : D) : Prop := ∃ xs, d = .tup xs ∧ lo ≤ xs.length ∧ xs.length ≤ hi ∧ ∀ d ∈ xs, ∃ x, d = .str x ∧ nmOk x = true
def pathB : Env → M Fl :=
    retM (clM tupleD (consA (lcM [3] (itRng1 (consA (binM addD (getv 2) (clM (takeM) (consA (getv 0) (consA (cst (.int 3)) (nilA))))) (nilA))) (gNm 3) (yesM) (binM ixD (getv 1) (clM (takeM) (consA (getv 0) (consA (clM lenD (consA (getv 1) (nilA))) (nilA)))))) (nilA)))
def pathM : List D → M D := fnM 4 pathB
theorem path_run {S : Sto} {b n k lo : Nat} {xs : List D} {Q : D → Sto → Prop} (hb : Bag S b) (hn : S[n]? = some (.lst xs)) (hnb : n ≠ b) (hx : Nms k xs) (hk : 0 < k) (hk2 : k ≤ 1000) (hlo : lo ≤ 10)
    (h : ∀ d S', Pth lo (lo + 2) d → Bag S' b → Fr b S S' → Q d S') : Run (pathM [.ref b, .ref n, .int (lo : Int)]) S Q := by
  have hxl := hx.1
  unfold pathM pathB
  repeat (first | walk_at "dl" | walk_at "dm")
  refine take_run hb (by decide) (by decide) fun m S1 m0 m1 hB1 fr1 => ?_
  repeat (first | walk_at "dl" | walk_at "dm")
  refine run_itR1 (by omega) (by omega) ?_
  rw [size_rng]
  refine comp_rng (fun i acc S' => Bag S' b ∧ Fr b S S' ∧ acc.length = i ∧ ∀ d ∈ acc, ∃ x, d = .str x ∧ nmOk x = true) ⟨hB1, fr1, rfl, fun d hd => absurd hd (List.not_mem_nil)⟩ (fun i acc S2 hi ⟨hB, fr, hl, hc⟩ => ?_) (fun acc S2 ⟨hB, fr, hl, hc⟩ => ?_)
  · repeat (first | walk_at "dl" | walk_at "dm")
    refine ite_t rfl ?_
    repeat (first | walk_at "dl" | walk_at "dm" | refine (run_lenL (fr.get hnb hn)).mpr ?_)
    refine take_run hB (by omega) (by omega) fun j S3 j0 j1 hB3 fr3 => ?_
    refine ix_run ((fr.trans fr3).get hnb hn) j0 (by omega) fun d hd => ?_
    refine ⟨small_len (by omega), hB3, fr.trans fr3, by simp [hl], fun e he => ?_⟩
    rcases List.mem_append.mp he with he | he
    · exact hc e he
    · rw [List.mem_singleton.mp he]
      exact hx.2 d hd
  · repeat (first | walk_at "dl" | walk_at "dm")
    refine (run_tupL last_get).mpr ?_
    repeat (first | walk_at "dl" | walk_at "dm")
    exact h _ _ ⟨acc, rfl, by omega, by omega, hc⟩ (Gw.one.bag hB) (fr.trans Gw.one.fr)
/-! ### what is said -/
def Arg (d : D) : Prop := ∃ x, d = .tup [.str "arg", .str x] ∧ nmOk x = true
/-- a text of at most twenty signs -/
def tx2 (x : Str) : Bool := PyData.strOk x && decide (x.length ≤ 20)
theorem tx2_of {x : Str} (h : txOk x = true) : tx2 x = true := by
  unfold txOk at h
  unfold tx2
  rw [Bool.and_eq_true, Bool.and_eq_true] at h
  rw [Bool.and_eq_true]
  exact ⟨h.1.1, h.2⟩
theorem nmOk_len {x : Str} (h : nmOk x = true) : 1 ≤ x.length ∧ x.length ≤ 8 ∧ x.cps.toList.all lw = true := by
  unfold nmOk at h
  rw [Bool.and_eq_true, Bool.and_eq_true] at h
  exact ⟨of_decide_eq_true h.1.1, of_decide_eq_true h.1.2, h.2⟩
theorem tx2_nm {x : Str} (h : nmOk x = true) : tx2 x = true := by
  obtain ⟨h1, h2, h3⟩ := nmOk_len h
  unfold tx2 PyData.strOk
  rw [Bool.and_eq_true]
  refine ⟨?_, decide_eq_true (by omega)⟩
  rw [← Array.all_toList]
  refine List.all_eq_true.mpr fun c hc => ?_
  have := List.all_eq_true.mp h3 c hc
  unfold lw at this
  rw [Bool.and_eq_true] at this
  have := of_decide_eq_true this.2
  exact decide_eq_true (by omega)
theorem pg_tx {S : Sto} {x : Str} (h : tx2 x = true) : Pg S 0 202 (.str x) (.str x) := by
  unfold tx2 at h
  rw [Bool.and_eq_true] at h
  have h1 := h.1
  have h2 := of_decide_eq_true h.2
  refine ⟨fun n _ => by cases n <;> rfl, by simpa [PyData.canLay0] using h1, rfl, by simp [PyData.depth], ?_⟩
  have := StrLaws.reprText_len x fun c hc => by
    unfold PyData.strOk at h1
    rw [← Array.all_toList] at h1
    have := of_decide_eq_true (List.all_eq_true.mp h1 c hc)
    omega
  show (reprText x).length ≤ 202
  omega
def Said (d : D) : Prop := (∃ x, d = .str x ∧ tx2 x = true) ∨ Arg d
def saidB : Env → M Fl :=
    retM (binM ixD (lstM (consA (clM (textM) (consA (getv 0) (nilA))) (consA (tupM (consA (cst (.str "arg")) (consA (binM ixD (getv 1) (clM (takeM) (consA (getv 0) (consA (clM lenD (consA (getv 1) (nilA))) (nilA))))) (nilA)))) (nilA)))) (clM intD (consA (binM eqD (clM (takeM) (consA (getv 0) (consA (cst (.int 4)) (nilA)))) (cst (.int 0))) (nilA))))
def saidM : List D → M D := fnM 2 saidB
theorem said_run {S : Sto} {b n k : Nat} {xs : List D} {Q : D → Sto → Prop} (hb : Bag S b) (hn : S[n]? = some (.lst xs)) (hnb : n ≠ b) (hx : Nms k xs) (hk : 0 < k) (hk2 : k ≤ 1000)
    (h : ∀ d S', Said d → Bag S' b → Fr b S S' → Q d S') : Run (saidM [.ref b, .ref n]) S Q := by
  have hxl := hx.1
  unfold saidM saidB
  repeat (first | walk_at "dl" | walk_at "dm")
  refine text_run hb fun x S1 hx1 hB1 fr1 => ?_
  repeat (first | walk_at "dl" | walk_at "dm" | refine (run_lenL (fr1.get hnb hn)).mpr ?_)
  refine take_run hB1 (by omega) (by omega) fun j S2 j0 j1 hB2 fr2 => ?_
  refine ix_run ((fr1.trans fr2).get hnb hn) j0 (by omega) fun d hd => ?_
  obtain ⟨y, rfl, hy⟩ := hx.2 d hd
  repeat (first | walk_at "dl" | walk_at "dm")
  refine ⟨Nat.le_of_ble_eq_true rfl, ?_⟩
  repeat (first | walk_at "dl" | walk_at "dm")
  refine ⟨Nat.le_of_ble_eq_true rfl, ?_⟩
  repeat (first | walk_at "dl" | walk_at "dm")
  have hlt := hB2.lt
  refine take_run (Gw.one.bag hB2) (by decide) (by decide) fun q S3 q0 q1 hB3 fr3 => ?_
  repeat (first | walk_at "dl" | walk_at "dm")
  refine ix_run (fr3.get (Nat.ne_of_gt hlt) last_get) (by split <;> omega) (by show _ < (2 : Int); split <;> omega) fun d hd => ?_
  repeat (first | walk_at "dl" | walk_at "dm")
  refine h d S3 ?_ hB3 ((fr1.trans fr2).trans (Gw.one.fr.trans fr3))
  rcases List.mem_cons.mp hd with rfl | hd
  · exact .inl ⟨x, rfl, tx2_of hx1⟩
  · rw [List.mem_singleton.mp hd]
    exact .inr ⟨y, rfl, hy⟩
/-! ### steps -/
def Rd1 (d : D) : Prop := Arg d ∨ (∃ x, d = .tup [.str "text", .str x] ∧ tx2 x = true) ∨ ∃ p, d = .tup [.str "path", p] ∧ Pth 1 3 p
inductive Stp : D → Prop
  | write {p t : D} {i : Int} : Pth 1 3 p → Said t → 0 ≤ i → i < 8 → Stp (.tup [.str "write", p, t, .int i])
  | folder {p : D} {i : Int} : Pth 1 3 p → 0 ≤ i → i < 8 → Stp (.tup [.str "folder", p, .int i])
  | link {p t : D} : Pth 1 3 p → Said t → Stp (.tup [.str "link", p, t])
  | delete {p : D} : Pth 1 3 p → Stp (.tup [.str "delete", p])
  | clear {p : D} : Pth 1 3 p → Stp (.tup [.str "clear", p])
  | rights {p : D} {i : Int} : Pth 1 3 p → 0 ≤ i → i < 8 → Stp (.tup [.str "rights", p, .int i])
  | run {c : Str} {rs : List D} {p : D} : nmOk c = true → rs.length ≤ 3 → (∀ d ∈ rs, Rd1 d) → Pth 1 3 p → Stp (.tup [.str "run", .str c, .tup rs, p])
  | copy {c : Str} {p q : D} : nmOk c = true → Pth 0 3 p → Pth 0 3 q → Stp (.tup [.str "copy", .str c, p, q])
def stepB : Env → M Fl :=
    seqM (par3M 4 5 6 (consA (clM (takeM) (consA (getv 0) (consA (cst (.int 12)) (nilA)))) (consA (clM (pathM) (consA (getv 0) (consA (getv 1) (consA (cst (.int 1)) (nilA))))) (consA (clM (takeM) (consA (getv 0) (consA (cst (.int 8)) (nilA)))) (nilA)))))
    (seqM (ifS (tstM (binM eqD (getv 4) (cst (.int 0)))) (retM (tupM (consA (cst (.str "write")) (consA (getv 5) (consA (clM (saidM) (consA (getv 0) (consA (getv 1) (nilA)))) (consA (getv 6) (nilA))))))) (nxM))
    (seqM (ifS (tstM (binM eqD (getv 4) (cst (.int 1)))) (retM (tupM (consA (cst (.str "folder")) (consA (getv 5) (consA (getv 6) (nilA)))))) (nxM))
    (seqM (ifS (tstM (binM eqD (getv 4) (cst (.int 2)))) (retM (tupM (consA (cst (.str "link")) (consA (getv 5) (consA (clM (saidM) (consA (getv 0) (consA (getv 1) (nilA)))) (nilA)))))) (nxM))
    (seqM (ifS (tstM (binM ltD (getv 4) (cst (.int 5)))) (retM (tupM (consA (binM ixD (lstM (consA (cst (.str "delete")) (consA (cst (.str "clear")) (nilA)))) (binM subD (getv 4) (cst (.int 3)))) (consA (getv 5) (nilA))))) (nxM))
    (seqM (ifS (tstM (binM eqD (getv 4) (cst (.int 5)))) (retM (tupM (consA (cst (.str "rights")) (consA (getv 5) (consA (getv 6) (nilA)))))) (nxM))
    (seqM (ifS (andT (tstM (binM ltD (getv 4) (cst (.int 8)))) (tstM (binM gtD (getv 3) (cst (.int 0))))) (seqM (asgM (lcM [9] (itRng1 (consA (clM (takeM) (consA (getv 0) (consA (cst (.int 3)) (nilA)))) (nilA))) (gNm 9) (yesM) (tupM (consA (cst (.str "path")) (consA (clM (pathM) (consA (getv 0) (consA (getv 1) (consA (cst (.int 1)) (nilA))))) (nilA))))) (gNm 7))
    (seqM (asgM (binM addD (getv 7) (binM mulD (lstM (consA (binM ixD (lstM (consA (tupM (consA (cst (.str "arg")) (consA (binM ixD (getv 1) (cst (.int 0))) (nilA)))) (consA (tupM (consA (cst (.str "text")) (consA (clM (textM) (consA (getv 0) (nilA))) (nilA)))) (nilA)))) (clM (takeM) (consA (getv 0) (consA (cst (.int 2)) (nilA))))) (nilA))) (clM (takeM) (consA (getv 0) (consA (cst (.int 2)) (nilA)))))) (gNm 7))
    (retM (tupM (consA (cst (.str "run")) (consA (binM ixD (lstM (consA (cst (.str "zip")) (consA (cst (.str "cc")) (nilA)))) (clM (takeM) (consA (getv 0) (consA (cst (.int 2)) (nilA))))) (consA (clM tupleD (consA (stM (getv 7) (binM ixD (lstM (consA (cst (.int 1)) (consA (unM negD (cst (.int 1))) (nilA)))) (clM (takeM) (consA (getv 0) (consA (cst (.int 2)) (nilA)))))) (nilA))) (consA (getv 5) (nilA))))))))) (nxM))
    (seqM (asgM (clM (pathM) (consA (getv 0) (consA (getv 1) (consA (clM intD (consA (binM gtD (clM (takeM) (consA (getv 0) (consA (cst (.int 6)) (nilA)))) (cst (.int 0))) (nilA))) (nilA))))) (gNm 8))
    (retM (tupM (consA (cst (.str "copy")) (consA (binM ixD (getv 2) (clM (takeM) (consA (getv 0) (consA (clM lenD (consA (getv 2) (nilA))) (nilA))))) (consA (getv 8) (consA (slM (getv 5) (noP) (someP (binM mulD (clM lenD (consA (getv 5) (nilA))) (clM intD (consA (binM gtD (clM (takeM) (consA (getv 0) (consA (cst (.int 8)) (nilA)))) (cst (.int 0))) (nilA)))))) (nilA))))))))))))))
def stepM : List D → M D := fnM 10 stepB
theorem Pth.mono {lo hi lo' hi' : Nat} {d : D} (h : Pth lo hi d) (h1 : lo' ≤ lo) (h2 : hi ≤ hi') : Pth lo' hi' d := by
  obtain ⟨xs, e, a, c, k⟩ := h
  exact ⟨xs, e, by omega, by omega, k⟩
theorem step_run {S : Sto} {b n n2 k k2 : Nat} {xs xs2 : List D} {w : Int} {Q : D → Sto → Prop} (hb : Bag S b) (hn : S[n]? = some (.lst xs)) (hnb : n ≠ b) (hx : Nms k xs) (hk : 0 < k) (hk2 : k ≤ 1000)
    (hn2 : S[n2]? = some (.lst xs2)) (hnb2 : n2 ≠ b) (hx2 : Nms k2 xs2) (hk20 : 0 < k2) (hk22 : k2 ≤ 1000)
    (h : ∀ d S', Stp d → Bag S' b → Fr b S S' → Q d S') : Run (stepM [.ref b, .ref n, .ref n2, .int w]) S Q := by
  have hxl := hx.1
  have hxl2 := hx2.1
  have hbl := hb.lt
  unfold stepM stepB
  refine run_fn.mpr (run_seq.mpr (run_par3.mpr ?_))
  repeat (first | walk_at "dl" | walk_at "dm")
  refine take_run hb (by decide) (by decide) fun way S1 w0 w1 hB1 fr1 => ?_
  repeat (first | walk_at "dl" | walk_at "dm")
  refine path_run (lo := 1) hB1 (fr1.get hnb hn) hnb hx hk hk2 (by decide) fun p S2 hp hB2 fr2 => ?_
  repeat (first | walk_at "dl" | walk_at "dm")
  refine take_run hB2 (by decide) (by decide) fun i S3 i0 i1 hB3 fr3 => ?_
  have fr := (fr1.trans fr2).trans fr3
  have hN := fr.get hnb hn
  have hN2 := fr.get hnb2 hn2
  repeat (first | walk_at "dl" | walk_at "dm")
  refine ite_eq (fun hz0 => ?_) (fun hz0 => ?_)
  · repeat (first | walk_at "dl" | walk_at "dm")
    refine said_run hB3 hN hnb hx hk hk2 fun t S4 ht hB4 fr4 => ?_
    repeat (first | walk_at "dl" | walk_at "dm")
    refine ⟨Nat.le_of_ble_eq_true rfl, ?_⟩
    repeat (first | walk_at "dl" | walk_at "dm")
    exact h _ _ (.write hp ht i0 i1) hB4 (fr.trans fr4)
  repeat (first | walk_at "dl" | walk_at "dm")
  refine ite_eq (fun hz1 => ?_) (fun hz1 => ?_)
  · repeat (first | walk_at "dl" | walk_at "dm")
    refine ⟨Nat.le_of_ble_eq_true rfl, ?_⟩
    repeat (first | walk_at "dl" | walk_at "dm")
    exact h _ _ (.folder hp i0 i1) hB3 fr
  repeat (first | walk_at "dl" | walk_at "dm")
  refine ite_eq (fun hz2 => ?_) (fun hz2 => ?_)
  · repeat (first | walk_at "dl" | walk_at "dm")
    refine said_run hB3 hN hnb hx hk hk2 fun t S4 ht hB4 fr4 => ?_
    repeat (first | walk_at "dl" | walk_at "dm")
    refine ⟨Nat.le_of_ble_eq_true rfl, ?_⟩
    repeat (first | walk_at "dl" | walk_at "dm")
    exact h _ _ (.link hp ht) hB4 (fr.trans fr4)
  repeat (first | walk_at "dl" | walk_at "dm")
  refine ite_b (fun hz3 => ?_) (fun hz3 => ?_)
  · repeat (first | walk_at "dl" | walk_at "dm")
    refine ⟨Nat.le_of_ble_eq_true rfl, ?_⟩
    repeat (first | walk_at "dl" | walk_at "dm")
    refine ix_run last_get (by omega) (by show _ < (2 : Int); omega) fun d hd => ?_
    repeat (first | walk_at "dl" | walk_at "dm")
    refine ⟨Nat.le_of_ble_eq_true rfl, ?_⟩
    repeat (first | walk_at "dl" | walk_at "dm")
    rcases List.mem_cons.mp hd with rfl | hd
    · exact h _ _ (.delete hp) (Gw.one.bag hB3) (fr.trans Gw.one.fr)
    · rw [List.mem_singleton.mp hd]
      exact h _ _ (.clear hp) (Gw.one.bag hB3) (fr.trans Gw.one.fr)
  repeat (first | walk_at "dl" | walk_at "dm")
  refine ite_eq (fun hz4 => ?_) (fun hz4 => ?_)
  · repeat (first | walk_at "dl" | walk_at "dm")
    refine ⟨Nat.le_of_ble_eq_true rfl, ?_⟩
    repeat (first | walk_at "dl" | walk_at "dm")
    exact h _ _ (.rights hp i0 i1) hB3 fr
  repeat (first | walk_at "dl" | walk_at "dm")
  have rest : ∀ (a7 a9 : Option D), Run (seqM (asgM (clM (pathM) (consA (getv 0) (consA (getv 1) (consA (clM intD (consA (binM gtD (clM (takeM) (consA (getv 0) (consA (cst (.int 6)) (nilA)))) (cst (.int 0))) (nilA))) (nilA))))) (gNm 8))
    (retM (tupM (consA (cst (.str "copy")) (consA (binM ixD (getv 2) (clM (takeM) (consA (getv 0) (consA (clM lenD (consA (getv 2) (nilA))) (nilA))))) (consA (getv 8) (consA (slM (getv 5) (noP) (someP (binM mulD (clM lenD (consA (getv 5) (nilA))) (clM intD (consA (binM gtD (clM (takeM) (consA (getv 0) (consA (cst (.int 8)) (nilA)))) (cst (.int 0))) (nilA)))))) (nilA))))))) [some (.ref b), some (.ref n), some (.ref n2), some (.int w), some (.int way), some p, some (.int i), a7, none, a9]) S3 (onRet Q) := fun a7 a9 => by
    obtain ⟨ps, rfl, hp1, hp2, hp3⟩ := hp
    repeat (first | walk_at "dl" | walk_at "dm")
    refine take_run hB3 (by decide) (by decide) fun m S4 m0 m1 hB4 fr4 => ?_
    repeat (first | walk_at "dl" | walk_at "dm")
    have back : ∀ (lo : Nat) (e : (if decide (0 < m) = true then (1 : Int) else 0) = (lo : Int)), lo ≤ 1 → True := fun _ _ _ => trivial
    obtain ⟨lo, elo, hlo⟩ : ∃ lo : Nat, (if decide (0 < m) = true then (1 : Int) else 0) = (lo : Int) ∧ lo ≤ 1 := by
      by_cases hm : 0 < m
      · exact ⟨1, by rw [if_pos (decide_eq_true hm)]; rfl, Nat.le_refl _⟩
      · exact ⟨0, by rw [if_neg (by simp [hm])]; rfl, by decide⟩
    rw [elo]
    refine path_run (lo := lo) hB4 (fr4.get hnb hN) hnb hx hk hk2 (by omega) fun q S5 hq hB5 fr5 => ?_
    have hN5 := (fr4.trans fr5).get hnb2 hN2
    repeat (first | walk_at "dl" | walk_at "dm" | refine (run_lenL hN5).mpr ?_)
    refine take_run hB5 (by omega) (by omega) fun j S6 j0 j1 hB6 fr6 => ?_
    refine ix_run (fr6.get hnb2 hN5) j0 (by omega) fun d hd => ?_
    obtain ⟨c, rfl, hc⟩ := hx2.2 d hd
    repeat (first | walk_at "dl" | walk_at "dm")
    refine take_run hB6 (by decide) (by decide) fun z S7 z0 z1 hB7 fr7 => ?_
    repeat (first | walk_at "dl" | walk_at "dm")
    refine run_mulI.mpr ⟨by rw [Bool.or_eq_true]; right; split <;> decide, ?_⟩
    repeat (first | walk_at "dl" | walk_at "dm")
    have h0 : (0 : Int) ≤ (ps.length : Int) * (if decide (0 < z) = true then 1 else 0) := by split <;> omega
    refine run_slT.mpr ?_
    rw [cut_to h0]
    repeat (first | walk_at "dl" | walk_at "dm")
    refine ⟨Nat.le_of_ble_eq_true rfl, ?_⟩
    repeat (first | walk_at "dl" | walk_at "dm")
    exact h _ _ (.copy hc (hq.mono (by omega) (by omega)) ⟨_, rfl, by omega, by rw [List.length_take]; omega, fun e he => hp3 e (List.mem_of_mem_take he)⟩) hB7 (fr.trans (fr4.trans (fr5.trans (fr6.trans fr7))))
  refine ite_b (fun hz5 => ?_) (fun hz5 => ?_)
  · repeat (first | walk_at "dl" | walk_at "dm")
    refine ite_b (fun hz6 => ?_) (fun hz6 => ?_)
    · repeat (first | walk_at "dl" | walk_at "dm")
      refine take_run hB3 (by decide) (by decide) fun m S4 m0 m1 hB4 fr4 => ?_
      repeat (first | walk_at "dl" | walk_at "dm")
      refine run_itR1 m0 (by omega) ?_
      rw [size_rng]
      refine comp_rng (fun i acc S' => Bag S' b ∧ Fr b S3 S' ∧ acc.length = i ∧ ∀ d ∈ acc, Rd1 d) ⟨hB4, fr4, rfl, fun d hd => absurd hd (List.not_mem_nil)⟩ (fun i acc S5 hi ⟨hB, fr5, hl, hc⟩ => ?_) (fun acc S5 ⟨hB, fr5, hl, hc⟩ => ?_)
      · repeat (first | walk_at "dl" | walk_at "dm")
        refine ite_t rfl ?_
        repeat (first | walk_at "dl" | walk_at "dm")
        refine path_run (lo := 1) hB (fr5.get hnb hN) hnb hx hk hk2 (by decide) fun q S6 hq hB6 fr6 => ?_
        repeat (first | walk_at "dl" | walk_at "dm")
        refine ⟨Nat.le_of_ble_eq_true rfl, ?_⟩
        refine ⟨small_len (by omega), hB6, fr5.trans fr6, by simp [hl], fun e he => ?_⟩
        rcases List.mem_append.mp he with he | he
        · exact hc e he
        · rw [List.mem_singleton.mp he]
          exact .inr (.inr ⟨q, rfl, hq⟩)
      · have hbl5 := hB.lt
        have hN5 := fr5.get hnb hN
        repeat (first | walk_at "dl" | walk_at "dm")
        obtain ⟨y, hy, hyo⟩ : ∃ y, xs[0]? = some (.str y) ∧ nmOk y = true := by
          have h0 : 0 < xs.length := by omega
          obtain ⟨y, e, hy⟩ := hx.2 _ (List.getElem_mem h0)
          exact ⟨y, by rw [List.getElem?_eq_getElem h0, e], hy⟩
        refine (run_ixL (Gw.one.get hN5) (atI_nat hy)).mpr ?_
        repeat (first | walk_at "dl" | walk_at "dm")
        refine ⟨Nat.le_of_ble_eq_true rfl, ?_⟩
        repeat (first | walk_at "dl" | walk_at "dm")
        refine text_run (Gw.one.bag hB) fun x S6 hx6 hB6 fr6 => ?_
        repeat (first | walk_at "dl" | walk_at "dm")
        refine ⟨Nat.le_of_ble_eq_true rfl, ?_⟩
        repeat (first | walk_at "dl" | walk_at "dm")
        refine ⟨Nat.le_of_ble_eq_true rfl, ?_⟩
        repeat (first | walk_at "dl" | walk_at "dm")
        have hlt6 := hB6.lt
        have hacc6 := fr6.get (Nat.ne_of_gt hbl5) (last_get (S := S5) (o := .lst acc))
        refine take_run (Gw.one.bag hB6) (by decide) (by decide) fun j S7 j0 j1 hB7 fr7 => ?_
        have hacc7 := fr7.get (Nat.ne_of_gt hbl5) (Gw.one.get hacc6)
        refine ix_run (fr7.get (Nat.ne_of_gt hlt6) last_get) j0 j1 fun d hd => ?_
        have hrd : Rd1 d := by
          rcases List.mem_cons.mp hd with rfl | hd
          · exact .inl ⟨y, rfl, hyo⟩
          · rw [List.mem_singleton.mp hd]
            exact .inr (.inl ⟨x, rfl, tx2_of hx6⟩)
        repeat (first | walk_at "dl" | walk_at "dm")
        refine ⟨Nat.le_of_ble_eq_true rfl, ?_⟩
        repeat (first | walk_at "dl" | walk_at "dm")
        have hlt7 := hB7.lt
        refine take_run (Gw.one.bag hB7) (by decide) (by decide) fun l S8 l0 l1 hB8 fr8 => ?_
        have hacc8 := fr8.get (Nat.ne_of_gt hbl5) (Gw.one.get hacc7)
        have hone : S8[S7.length]? = some (.lst [d]) := fr8.get (Nat.ne_of_gt hlt7) last_get
        have hlen1 : [d].length * l.toNat ≤ sizeLine := by
          have : [d].length = 1 := rfl
          rw [this]
          exact Nat.le_of_lt (small_len (by omega))
        refine (run_mulL hone l0 (by omega) hlen1).mpr ?_
        have hrl : (List.replicate l.toNat [d]).flatten.length ≤ 1 ∧ ∀ e ∈ (List.replicate l.toNat [d]).flatten, Rd1 e := by
          have : l.toNat = 0 ∨ l.toNat = 1 := by omega
          rcases this with e | e
          · rw [e]; exact ⟨Nat.zero_le _, fun e he => absurd he (by simp)⟩
          · rw [e]; exact ⟨by simp, fun e he => by
              have : e = d := by simpa using he
              rw [this]; exact hrd⟩
        have hml : m.toNat ≤ 2 := by omega
        refine (run_addL (Gw.one.get hacc8) last_get (Nat.le_of_lt (small_len (by omega)))).mpr ?_
        repeat (first | walk_at "dl" | walk_at "dm")
        have hB9 := (Gw.one (o := O.lst (acc ++ (List.replicate l.toNat [d]).flatten))).bag ((Gw.one (o := O.lst (List.replicate l.toNat [d]).flatten)).bag hB8)
        have hreads : ((S8 ++ [O.lst (List.replicate l.toNat [d]).flatten]) ++ [O.lst (acc ++ (List.replicate l.toNat [d]).flatten)])[(S8 ++ [O.lst (List.replicate l.toNat [d]).flatten]).length]? = some (.lst (acc ++ (List.replicate l.toNat [d]).flatten)) := last_get
        have hrn : b < (S8 ++ [O.lst (List.replicate l.toNat [d]).flatten]).length := by
          have := hB8.lt
          simp
          omega
        have frR : Fr b S3 ((S8 ++ [O.lst (List.replicate l.toNat [d]).flatten]) ++ [O.lst (acc ++ (List.replicate l.toNat [d]).flatten)]) :=
          fr5.trans ((Gw.one.fr.trans fr6).trans ((Gw.one.fr.trans fr7).trans ((Gw.one.fr.trans fr8).trans (Gw.one.trans Gw.one).fr)))
        generalize (S8 ++ [O.lst (List.replicate l.toNat [d]).flatten]) ++ [O.lst (acc ++ (List.replicate l.toNat [d]).flatten)] = S9 at hB9 hreads frR
        generalize (S8 ++ [O.lst (List.replicate l.toNat [d]).flatten]).length = nr at hreads hrn
        have hrall : ∀ e ∈ acc ++ (List.replicate l.toNat [d]).flatten, Rd1 e := fun e he => by
          rcases List.mem_append.mp he with he | he
          · exact hc e he
          · exact hrl.2 e he
        have hrlen : (acc ++ (List.replicate l.toNat [d]).flatten).length ≤ 3 := by rw [List.length_append]; omega
        generalize acc ++ (List.replicate l.toNat [d]).flatten = reads at hreads hrall hrlen
        repeat (first | walk_at "dl" | walk_at "dm")
        refine ⟨Nat.le_of_ble_eq_true rfl, ?_⟩
        repeat (first | walk_at "dl" | walk_at "dm")
        have hlt9 := hB9.lt
        refine take_run (Gw.one.bag hB9) (by decide) (by decide) fun u S10 u0 u1 hB10 fr10 => ?_
        refine ix_run (fr10.get (Nat.ne_of_gt hlt9) last_get) u0 u1 fun c hcm => ?_
        have hcc : ∃ x, c = .str x ∧ nmOk x = true := by
          rcases List.mem_cons.mp hcm with rfl | hcm
          · exact ⟨_, rfl, by decide +kernel⟩
          · rw [List.mem_singleton.mp hcm]
            exact ⟨_, rfl, by decide +kernel⟩
        obtain ⟨c, rfl, hcc⟩ := hcc
        have hreads10 := fr10.get (Nat.ne_of_gt hrn) (Gw.one.get hreads)
        have hlt10 := hB10.lt
        repeat (first | walk_at "dl" | walk_at "dm")
        refine run_st.mpr ?_
        repeat (first | walk_at "dl" | walk_at "dm" | refine run_negI.mpr ?_)
        refine ⟨Nat.le_of_ble_eq_true rfl, ?_⟩
        repeat (first | walk_at "dl" | walk_at "dm")
        refine take_run (Gw.one.bag hB10) (by decide) (by decide) fun v S11 v0 v1 hB11 fr11 => ?_
        have hreads11 := fr11.get (Nat.ne_of_gt hrn) (Gw.one.get hreads10)
        refine ix_run (fr11.get (Nat.ne_of_gt hlt10) last_get) v0 v1 fun st hst => ?_
        have frZ := fr.trans (frR.trans ((Gw.one.fr.trans fr10).trans (Gw.one.fr.trans fr11)))
        rcases List.mem_cons.mp hst with rfl | hst
        · refine (run_step1 hreads11).mpr ?_
          repeat (first | walk_at "dl" | walk_at "dm")
          refine (run_tupL last_get).mpr ?_
          repeat (first | walk_at "dl" | walk_at "dm")
          refine ⟨Nat.le_of_ble_eq_true rfl, ?_⟩
          repeat (first | walk_at "dl" | walk_at "dm")
          exact h _ _ (.run hcc hrlen hrall hp) (Gw.one.bag hB11) (frZ.trans Gw.one.fr)
        · rw [List.mem_singleton.mp hst]
          refine (run_stepB hreads11).mpr ?_
          repeat (first | walk_at "dl" | walk_at "dm")
          refine (run_tupL last_get).mpr ?_
          repeat (first | walk_at "dl" | walk_at "dm")
          refine ⟨Nat.le_of_ble_eq_true rfl, ?_⟩
          repeat (first | walk_at "dl" | walk_at "dm")
          exact h _ _ (.run hcc (by rw [List.length_reverse]; exact hrlen) (fun e he => hrall e (List.mem_reverse.mp he)) hp) (Gw.one.bag hB11) (frZ.trans Gw.one.fr)
    · refine run_nx.mpr (on_nx.mpr ?_)
      exact rest _ _
  · refine ite_f (by decide) ?_
    refine run_nx.mpr (on_nx.mpr ?_)
    exact rest _ _

open PySem PySem.Spec PyProof.Rows L2
/-! ### branches -/
theorem ite_tr {a b : Prop} {c : Bool} (h : c = true) (q : a) : if c = true then a else b := by rw [if_pos h]; exact q
theorem ite_fr {a b : Prop} {c : Bool} (h : c = false) (q : b) : if c = true then a else b := by rw [if_neg (by rw [h]; exact Bool.false_ne_true)]; exact q
theorem ite_bo {a b : Prop} {c : Bool} (h1 : c = true → a) (h2 : c = false → b) : if c = true then a else b := by
  cases c with
  | true => exact ite_tr rfl (h1 rfl)
  | false => exact ite_fr rfl (h2 rfl)
theorem run_neI {S : Sto} {i j : Int} {Q : D → Sto → Prop} : Run (neD (.int i) (.int j)) S Q ↔ Q (.bl (!(i == j))) S := by unfold neD; exact run_ofB (by rw [eqB_int]; rfl)
theorem run_neS {S : Sto} {x y : Str} {Q : D → Sto → Prop} : Run (neD (.str x) (.str y)) S Q ↔ Q (.bl (!(x == y))) S := by unfold neD; exact run_ofB rfl
/-- over the signs of a text -/
theorem comp_str {g : D → DL.Env → M DL.Env} {tst : DL.Env → M Bool} {el : DL.Env → M D} {r0 : DL.Env} {x : Str} {S : Sto} {QL : List D → Sto → Prop} (I : Nat → List D → Sto → Prop) (h0 : I 0 [] S)
    (hs : ∀ i acc S c, x.cps.toList[i]? = some c → I i acc S → Run (g (.str ⟨#[c]⟩) r0) S fun r1 S1 => Run (tst r1) S1 fun c S2 => if c = true then Run (el r1) S2 fun y S3 => acc.length < sizeLine ∧ I (i + 1) (acc ++ [y]) S3 else I (i + 1) acc S2) (hd : ∀ acc S, I x.cps.toList.length acc S → QL acc S) :
    Run (compN g tst el (.str x) r0 (ItD.size (.str x) S) 0 []) S QL := by
  have e : ItD.size (.str x) S = x.cps.toList.length := by simp [ItD.size]
  rw [e]
  refine compN_rule (item := fun i => .str ⟨#[x.cps.toList.getD i 0]⟩) I (fun i acc S h => ?_) (fun i acc S hi h => hs i acc S _ ?_ h) hd x.cps.toList.length 0 [] S (by omega) h0
  · unfold ItD.at
    simp only []
    by_cases hi : i < x.cps.toList.length
    · rw [if_pos hi, ← Array.getElem?_toList, List.getElem?_eq_getElem hi, List.getD_eq_getElem?_getD, List.getElem?_eq_getElem hi]
      rfl
    · rw [if_neg hi, ← Array.getElem?_toList, List.getElem?_eq_none (by omega)]
      rfl
  · rw [List.getElem?_eq_getElem hi, List.getD_eq_getElem?_getD, List.getElem?_eq_getElem hi]
    rfl
/-- beside nothing -/
theorem toPys_len {f : D → Option PyData} : ∀ {xs : List D} {ps : List PyData}, toPys f xs = some ps → ps.length = xs.length
  | [], _, h => by unfold toPys at h; cases h; rfl
  | x :: xs, _, h => by
    obtain ⟨p, r, rfl, _, h2⟩ := toPys_cons h
    simp [toPys_len h2]
theorem eqvAll_emp (ps : List PyData) : PyData.eqvAll ps [] = ps.isEmpty := by cases ps <;> simp [PyData.eqvAll]
theorem eqP_emp {S : Sto} {a b : D} {xs : List D} {c : Bool} (h : eqP S a b = some c)
    (ha : ∀ p, toPy S deep a = some p → ∃ ps, ps.length = xs.length ∧ ((p = .list ps ∧ ∀ q, toPy S deep b = some q → q = .list []) ∨ (p = .tuple ps ∧ ∀ q, toPy S deep b = some q → q = .tuple []))) : c = xs.isEmpty := by
  obtain ⟨p, q, h1, h2, _, _, rfl⟩ := eqB_of h
  obtain ⟨ps, hl, ⟨rfl, k⟩ | ⟨rfl, k⟩⟩ := ha p h1
  · rw [k q h2]
    simp only [PyData.eqv, eqvAll_emp]
    cases ps <;> cases xs <;> simp_all
  · rw [k q h2]
    simp only [PyData.eqv, eqvAll_emp]
    cases ps <;> cases xs <;> simp_all
theorem eqB_empT {S : Sto} {xs : List D} : eqB S (.tup xs) (.tup []) = some xs.isEmpty := by
  unfold eqB
  simp only [twoStr]
  cases e : eqP S (.tup xs) (.tup []) with
  | none => rfl
  | some c =>
    refine congrArg some (eqP_emp e fun p hp => ?_)
    unfold deep toPy at hp
    obtain ⟨ps, h1, rfl⟩ := Option.map_eq_some_iff.mp hp
    exact ⟨ps, toPys_len h1, .inr ⟨rfl, fun q hq => by unfold deep toPy at hq; simpa [toPys] using hq.symm⟩⟩
theorem eqB_empL {S : Sto} {n m : Nat} {xs : List D} (hn : S[n]? = some (.lst xs)) (hm : S[m]? = some (.lst [])) : eqB S (.ref n) (.ref m) = some xs.isEmpty := by
  unfold eqB
  simp only [twoStr]
  cases e : eqP S (.ref n) (.ref m) with
  | none =>
    have : dictSame S (.ref n) (.ref m) = false := by unfold dictSame; simp only [hn]
    simp only [this]
    unfold empB
    simp only [hn, hm]
    rfl
  | some c =>
    refine congrArg some (eqP_emp e fun p hp => ?_)
    unfold deep toPy at hp
    simp only [hn] at hp
    obtain ⟨ps, h1, rfl⟩ := Option.map_eq_some_iff.mp hp
    exact ⟨ps, toPys_len h1, .inl ⟨rfl, fun q hq => by unfold deep toPy at hq; simp only [hm] at hq; simpa [toPys] using hq.symm⟩⟩
theorem run_eqET {S : Sto} {xs : List D} {Q : D → Sto → Prop} : Run (eqD (.tup xs) (.tup [])) S Q ↔ Q (.bl xs.isEmpty) S := by unfold eqD; exact run_ofB eqB_empT
theorem run_neET {S : Sto} {xs : List D} {Q : D → Sto → Prop} : Run (neD (.tup xs) (.tup [])) S Q ↔ Q (.bl (!xs.isEmpty)) S := by unfold neD; exact run_ofB (by rw [eqB_empT]; rfl)
theorem run_eqEL {S : Sto} {n m : Nat} {xs : List D} {Q : D → Sto → Prop} (hn : S[n]? = some (.lst xs)) (hm : S[m]? = some (.lst [])) : Run (eqD (.ref n) (.ref m)) S Q ↔ Q (.bl xs.isEmpty) S := by unfold eqD; exact run_ofB (eqB_empL hn hm)

/-! ### data that may lie in the store -/
def flatPy : D → Option PyData
  | .non => some .none
  | .bl b => some (.bool b)
  | .int i => some (.int i)
  | .str x => some (.str x)
  | _ => none
theorem flatPy_py {S : Sto} {n : Nat} {d : D} {p : PyData} (h : flatPy d = some p) : toPy S n d = some p := by
  cases d <;> first | (cases (show none = some p from h); done) | (cases n <;> exact h)
theorem flatPyK {S : Sto} {n : Nat} : ∀ {kvs : List (Key × D)} {ps : List (PyData × PyData)}, toPyK flatPy kvs = some ps → toPyK (toPy S n) kvs = some ps
  | [], _, h => h
  | (k, x) :: xs, ps, h => by
    unfold toPyK at h
    split at h
    · rename_i p r h1 h2
      cases h
      unfold toPyK
      rw [flatPy_py h1, flatPyK h2]
    · cases h
/-- what stood stands, but where A says -/
structure FrA (A : Nat → Prop) (S S' : Sto) : Prop where
  len : S.length ≤ S'.length
  at_ : ∀ i, i < S.length → ¬ A i → S'[i]? = S[i]?
theorem FrA.get {A : Nat → Prop} {S S' : Sto} (a : FrA A S S') {i : Nat} {o : O} (n : ¬ A i) (h : S[i]? = some o) : S'[i]? = some o := by
  rw [a.at_ i (List.getElem?_eq_some_iff.mp h).1 n]; exact h
theorem Fr.fa {A : Nat → Prop} {b : Nat} {S S' : Sto} (h : A b) (f : Fr b S S') : FrA A S S' := ⟨f.len, fun i hi n => f.at_ i hi (fun e => n (e ▸ h))⟩
theorem Gw.fa {A : Nat → Prop} {S S' : Sto} (a : Gw S S') : FrA A S S' := by
  obtain ⟨t, rfl⟩ := a
  exact ⟨by simp, fun i h _ => List.getElem?_append_left h⟩
mutual
inductive Gd (b0 : Nat → Prop) (S : Sto) : Nat → Nat → D → PyData → Prop
  | non {h b : Nat} : 4 ≤ b → Gd b0 S h b .non .none
  | bl {h b : Nat} {c : Bool} : 5 ≤ b → Gd b0 S h b (.bl c) (.bool c)
  | int {h b : Nat} {i : Int} : (PyData.int i).showable = true → (PyData.int i).shown.length ≤ b → Gd b0 S h b (.int i) (.int i)
  | str {h b : Nat} {x : Str} : PyData.strOk x = true → 10 * x.length + 2 ≤ b → Gd b0 S h b (.str x) (.str x)
  | tup {h b B : Nat} {xs : List D} {ps : List PyData} : GdA b0 S h B xs ps → B + 3 ≤ b → Gd b0 S (h + 1) b (.tup xs) (.tuple ps)
  | lst {h b B n : Nat} {xs : List D} {ps : List PyData} : ¬ b0 n → S[n]? = some (.lst xs) → GdA b0 S h B xs ps → B + 3 ≤ b → Gd b0 S (h + 1) b (.ref n) (.list ps)
  | dic {h b n : Nat} {kvs : List (Key × D)} {ps : List (PyData × PyData)} : ¬ b0 n → S[n]? = some (.dK kvs) → toPyK flatPy kvs = some ps → (PyData.dict ps).showable = true → (PyData.dict ps).depth ≤ h + 1 → (PyData.dict ps).shown.length ≤ b → Gd b0 S (h + 1) b (.ref n) (.dict ps)
inductive GdA (b0 : Nat → Prop) (S : Sto) : Nat → Nat → List D → List PyData → Prop
  | nil {h B : Nat} : GdA b0 S h B [] []
  | cons {h b B B' : Nat} {d : D} {p : PyData} {ds : List D} {ps : List PyData} : Gd b0 S h b d p → GdA b0 S h B ds ps → b + 2 + B ≤ B' → GdA b0 S h B' (d :: ds) (p :: ps)
end
section
variable {b0 : Nat → Prop} {S S' : Sto}
mutual
theorem Gd.mono : ∀ {p : PyData} {h h' b b' : Nat} {d : D}, Gd b0 S h b d p → h ≤ h' → b ≤ b' → Gd b0 S h' b' d p
  | .none, _, _, _, _, _, .non k, _, hb => .non (Nat.le_trans k hb)
  | .bool _, _, _, _, _, _, .bl k, _, hb => .bl (Nat.le_trans k hb)
  | .int _, _, _, _, _, _, .int k1 k2, _, hb => .int k1 (Nat.le_trans k2 hb)
  | .str _, _, _, _, _, _, .str k1 k2, _, hb => .str k1 (Nat.le_trans k2 hb)
  | .tuple ps, _, 0, _, _, _, .tup k1 k2, hh, hb => absurd hh (Nat.not_succ_le_zero _)
  | .list ps, _, 0, _, _, _, .lst k1 k2 k3 k4, hh, hb => absurd hh (Nat.not_succ_le_zero _)
  | .dict ps, _, 0, _, _, _, .dic k1 k2 k3 k4 k5 k6, hh, hb => absurd hh (Nat.not_succ_le_zero _)
  | .tuple ps, _, h' + 1, _, _, _, .tup k1 k2, hh, hb => .tup (GdA.mono k1 (Nat.le_of_succ_le_succ hh) (Nat.le_refl _)) (Nat.le_trans k2 hb)
  | .list ps, _, h' + 1, _, _, _, .lst k1 k2 k3 k4, hh, hb => .lst k1 k2 (GdA.mono k3 (Nat.le_of_succ_le_succ hh) (Nat.le_refl _)) (Nat.le_trans k4 hb)
  | .dict ps, _, h' + 1, _, _, _, .dic k1 k2 k3 k4 k5 k6, hh, hb => .dic k1 k2 k3 k4 (Nat.le_trans k5 hh) (Nat.le_trans k6 hb)
theorem GdA.mono : ∀ {ps : List PyData} {h h' B B' : Nat} {ds : List D}, GdA b0 S h B ds ps → h ≤ h' → B ≤ B' → GdA b0 S h' B' ds ps
  | [], _, _, _, _, _, .nil, _, _ => .nil
  | p :: ps, _, _, _, _, _, .cons k1 k2 k3, hh, hb => .cons (Gd.mono k1 hh (Nat.le_refl _)) (GdA.mono k2 hh (Nat.le_refl _)) (Nat.le_trans k3 hb)
end
mutual
theorem Gd.fr (f : FrA b0 S S') : ∀ {p : PyData} {h b : Nat} {d : D}, Gd b0 S h b d p → Gd b0 S' h b d p
  | .none, _, _, _, .non k => .non k
  | .bool _, _, _, _, .bl k => .bl k
  | .int _, _, _, _, .int k1 k2 => .int k1 k2
  | .str _, _, _, _, .str k1 k2 => .str k1 k2
  | .tuple ps, _, _, _, .tup k1 k2 => .tup (GdA.fr f k1) k2
  | .list ps, _, _, _, .lst k1 k2 k3 k4 => .lst k1 (f.get k1 k2) (GdA.fr f k3) k4
  | .dict ps, _, _, _, .dic k1 k2 k3 k4 k5 k6 => .dic k1 (f.get k1 k2) k3 k4 k5 k6
theorem GdA.fr (f : FrA b0 S S') : ∀ {ps : List PyData} {h B : Nat} {ds : List D}, GdA b0 S h B ds ps → GdA b0 S' h B ds ps
  | [], _, _, _, .nil => .nil
  | p :: ps, _, _, _, .cons k1 k2 k3 => .cons (Gd.fr f k1) (GdA.fr f k2) k3
end
mutual
/-- places yet to come are none of its -/
theorem Gd.wide {A : Nat → Prop} (hA : ∀ i, i < S.length → A i → b0 i) : ∀ {p : PyData} {h b : Nat} {d : D}, Gd b0 S h b d p → Gd A S h b d p
  | .none, _, _, _, .non k => .non k
  | .bool _, _, _, _, .bl k => .bl k
  | .int _, _, _, _, .int k1 k2 => .int k1 k2
  | .str _, _, _, _, .str k1 k2 => .str k1 k2
  | .tuple ps, _, _, _, .tup k1 k2 => .tup (GdA.wide hA k1) k2
  | .list ps, _, _, _, .lst k1 k2 k3 k4 => .lst (fun z => k1 (hA _ (List.getElem?_eq_some_iff.mp k2).1 z)) k2 (GdA.wide hA k3) k4
  | .dict ps, _, _, _, .dic k1 k2 k3 k4 k5 k6 => .dic (fun z => k1 (hA _ (List.getElem?_eq_some_iff.mp k2).1 z)) k2 k3 k4 k5 k6
theorem GdA.wide {A : Nat → Prop} (hA : ∀ i, i < S.length → A i → b0 i) : ∀ {ps : List PyData} {h B : Nat} {ds : List D}, GdA b0 S h B ds ps → GdA A S h B ds ps
  | [], _, _, _, .nil => .nil
  | p :: ps, _, _, _, .cons k1 k2 k3 => .cons (Gd.wide hA k1) (GdA.wide hA k2) k3
end
theorem GdA.cut3 : ∀ {ps : List PyData} {h B : Nat} {ds : List D} {x : D} (n : Nat), GdA b0 S h B ds ps → ds[n]? = some x → ∃ B1 b1 B2 p ps1 ps2, B1 + (b1 + 2) + B2 ≤ B ∧ GdA b0 S h B1 (ds.take n) ps1 ∧ Gd b0 S h b1 x p ∧ GdA b0 S h B2 (ds.drop (n + 1)) ps2
  | [], _, _, _, _, n, .nil, e => by simp at e
  | p :: ps, _, _, _, x, 0, .cons (d := d') (b := b) (B := B) k1 k2 k3, e => by
    have e' : d' = x := by simpa using e
    subst e'
    exact ⟨0, b, B, p, [], ps, by omega, .nil, k1, k2⟩
  | p :: ps, _, _, _, x, n + 1, .cons (b := b) k1 k2 k3, e => by
    obtain ⟨B1, b1, B2, q, ps1, ps2, hb, g1, g2, g3⟩ := GdA.cut3 n k2 (by simpa using e)
    exact ⟨b + 2 + B1, b1, B2, q, p :: ps1, ps2, by omega, .cons k1 g1 (Nat.le_refl _), g2, g3⟩
theorem repr_le {x : Str} (h : PyData.strOk x = true) : (reprText x).length ≤ 10 * x.length + 2 := by
  have := StrLaws.reprText_len x fun c hc => by
    unfold PyData.strOk at h
    rw [← Array.all_toList] at h
    have := of_decide_eq_true (List.all_eq_true.mp h c hc)
    omega
  omega
theorem listText_nil_le : (listText []).length ≤ 3 := by decide
mutual
theorem Gd.all : ∀ {p : PyData} {h b : Nat} {d : D}, Gd b0 S h b d p → (∀ n, h ≤ n → toPy S n d = some p) ∧ p.showable = true ∧ p.depth ≤ h ∧ p.shown.length ≤ b
  | .none, _, _, _, .non k => ⟨fun n _ => by cases n <;> rfl, rfl, Nat.zero_le _, k⟩
  | .bool c, _, _, _, .bl k => ⟨fun n _ => by cases n <;> rfl, rfl, Nat.zero_le _, Nat.le_trans (by cases c <;> exact Nat.le_of_ble_eq_true rfl) k⟩
  | .int _, _, _, _, .int k1 k2 => ⟨fun n _ => by cases n <;> rfl, k1, Nat.zero_le _, k2⟩
  | .str _, _, _, _, .str k1 k2 => ⟨fun n _ => by cases n <;> rfl, rfl, Nat.zero_le _, Nat.le_trans (repr_le k1) k2⟩
  | .tuple ps, h + 1, _, _, .tup k1 k2 => by
    obtain ⟨a1, a2, a3, a4⟩ := GdA.all k1
    refine ⟨fun n hn => ?_, a2, ?_, ?_⟩
    · obtain ⟨m, rfl⟩ : ∃ m, n = m + 1 := ⟨n - 1, by omega⟩
      unfold toPy
      rw [a1 m (by omega)]
      rfl
    · simp only [PyData.depth]; omega
    · have := tupleText_le (PyData.shownAll ps)
      simp only [PyData.shown]; omega
  | .list ps, h + 1, _, _, .lst k1 k2 k3 k4 => by
    obtain ⟨a1, a2, a3, a4⟩ := GdA.all k3
    refine ⟨fun n hn => ?_, a2, ?_, ?_⟩
    · obtain ⟨m, rfl⟩ : ∃ m, n = m + 1 := ⟨n - 1, by omega⟩
      unfold toPy
      simp only [k2]
      rw [a1 m (by omega)]
      rfl
    · simp only [PyData.depth]; omega
    · have := listText_le (PyData.shownAll ps)
      simp only [PyData.shown]; omega
  | .dict ps, h + 1, _, _, .dic k1 k2 k3 k4 k5 k6 => by
    refine ⟨fun n hn => ?_, k4, k5, k6⟩
    obtain ⟨m, rfl⟩ : ∃ m, n = m + 1 := ⟨n - 1, by omega⟩
    unfold toPy
    simp only [k2]
    rw [flatPyK k3]
    rfl
theorem GdA.all : ∀ {ps : List PyData} {h B : Nat} {ds : List D}, GdA b0 S h B ds ps → (∀ n, h ≤ n → toPys (toPy S n) ds = some ps) ∧ PyData.showableAll ps = true ∧ PyData.depthAll ps ≤ h ∧ piled (PyData.shownAll ps) ≤ B
  | [], _, _, _, .nil => ⟨fun _ _ => rfl, rfl, Nat.zero_le _, by simp [PyData.shownAll, piled]⟩
  | p :: ps, _, _, _, .cons k1 k2 k3 => by
    obtain ⟨a1, a2, a3, a4⟩ := Gd.all k1
    obtain ⟨c1, c2, c3, c4⟩ := GdA.all k2
    refine ⟨fun n hn => ?_, ?_, ?_, ?_⟩
    · unfold toPys
      rw [a1 n hn, c1 n hn]
    · simp [PyData.showableAll, a2, c2]
    · simp only [PyData.depthAll]
      exact Nat.max_le.mpr ⟨a3, c3⟩
    · simp only [PyData.shownAll, piled_cons]
      omega
end
theorem GdA.len : ∀ {ps : List PyData} {h B : Nat} {ds : List D}, GdA b0 S h B ds ps → 2 * ds.length ≤ B
  | [], _, _, _, .nil => by simp
  | p :: ps, _, _, _, .cons k1 k2 k3 => by
    have := GdA.len k2
    simp only [List.length_cons]
    omega
theorem GdA.app : ∀ {ps qs : List PyData} {h B B' : Nat} {ds es : List D}, GdA b0 S h B ds ps → GdA b0 S h B' es qs → GdA b0 S h (B + B') (ds ++ es) (ps ++ qs)
  | [], _, _, _, _, _, _, .nil, q => q.mono (Nat.le_refl _) (by omega)
  | p :: ps, _, _, _, _, _, _, .cons k1 k2 k3, q => .cons k1 (GdA.app k2 q) (by omega)
theorem GdA.take : ∀ {ps : List PyData} {h B : Nat} {ds : List D} (n : Nat), GdA b0 S h B ds ps → GdA b0 S h B (ds.take n) (ps.take n)
  | _, _, _, _, 0, _ => by simpa using GdA.nil
  | [], _, _, _, n + 1, .nil => .nil
  | p :: ps, _, _, _, n + 1, .cons k1 k2 k3 => .cons k1 (GdA.take n k2) k3
theorem GdA.drop : ∀ {ps : List PyData} {h B : Nat} {ds : List D} (n : Nat), GdA b0 S h B ds ps → GdA b0 S h B (ds.drop n) (ps.drop n)
  | _, _, _, _, 0, q => q
  | [], _, _, _, n + 1, .nil => .nil
  | p :: ps, _, _, _, n + 1, .cons k1 k2 k3 => (GdA.drop n k2).mono (Nat.le_refl _) (by omega)
theorem GdA.get : ∀ {ps : List PyData} {h B : Nat} {ds : List D} {i : Nat} {d : D}, GdA b0 S h B ds ps → ds[i]? = some d → ∃ p, Gd b0 S h B d p
  | [], _, _, _, i, d, .nil, e => by simp at e
  | p :: ps, _, _, _, 0, d, .cons (d := d') k1 k2 k3, e => by
    have e' : d' = d := by simpa using e
    subst e'
    exact ⟨p, k1.mono (Nat.le_refl _) (by omega)⟩
  | p :: ps, _, _, _, i + 1, d, .cons k1 k2 k3, e => by
    obtain ⟨q, hq⟩ := GdA.get (i := i) (d := d) k2 (by simpa using e)
    exact ⟨q, hq.mono (Nat.le_refl _) (by omega)⟩
theorem GdA.mem {ps : List PyData} {h B : Nat} {ds : List D} {d : D} (g : GdA b0 S h B ds ps) (e : d ∈ ds) : ∃ p, Gd b0 S h B d p := by
  obtain ⟨i, hi⟩ := List.getElem?_of_mem e
  exact g.get hi
theorem GdA.one {h b : Nat} {d : D} {p : PyData} (g : Gd b0 S h b d p) : GdA b0 S h (b + 2) [d] [p] := .cons g .nil (Nat.le_refl (b + 2 + 0))
theorem gda_of {h b : Nat} : ∀ {ds : List D}, (∀ d ∈ ds, ∃ p, Gd b0 S h b d p) → ∃ ps, GdA b0 S h (ds.length * (b + 2)) ds ps
  | [], _ => ⟨[], .nil⟩
  | d :: ds, k => by
    obtain ⟨p, hp⟩ := k d (List.mem_cons_self ..)
    obtain ⟨ps, hps⟩ := gda_of fun x hx => k x (List.mem_cons_of_mem _ hx)
    exact ⟨p :: ps, .cons hp hps (by rw [List.length_cons, Nat.add_mul]; omega)⟩
/-- printed -/
theorem run_reprGd {h b : Nat} {d : D} {p : PyData} {Q : D → Sto → Prop} (g : Gd b0 S h b d p) (hh : h ≤ 64) (hb : b ≤ sizeLine) : Run (reprD [d]) S Q ↔ Q (.str p.shown) S := by
  obtain ⟨a1, a2, a3, a4⟩ := g.all
  have e : showB S d = some p.shown := by
    unfold showB
    rw [a1 deep (by unfold deep; omega)]
    simp only []
    rw [if_pos ⟨by omega, a2, by omega⟩]
  refine run_ok ?_
  unfold reprD
  simp only [e]
/-- of what type -/
def kStr : D → Bool
  | .str _ => true
  | _ => false
def kTup : D → Bool
  | .tup _ => true
  | _ => false
def kBl : D → Bool
  | .bl _ => true
  | _ => false
def kInt : D → Bool
  | .int _ => true
  | .bl _ => true
  | _ => false
theorem Gd.ty {h b : Nat} {d : D} {p : PyData} (g : Gd b0 S h b d p) : ∃ t, tyTn S d = some t ∧ t.sub .tStr = kStr d ∧ t.sub .tTuple = kTup d ∧ t.sub .tInt = kInt d ∧ t.sub .tBool = kBl d := by
  cases g with
  | non => exact ⟨_, rfl, rfl, rfl, rfl, rfl⟩
  | bl => exact ⟨_, rfl, rfl, rfl, rfl, rfl⟩
  | int => exact ⟨_, rfl, rfl, rfl, rfl, rfl⟩
  | str => exact ⟨_, rfl, rfl, rfl, rfl, rfl⟩
  | tup => exact ⟨_, rfl, rfl, rfl, rfl, rfl⟩
  | lst k1 k2 => exact ⟨.tList, by simp only [tyTn, k2], rfl, rfl, rfl, rfl⟩
  | dic k1 k2 => exact ⟨.tDict, by simp only [tyTn, k2], rfl, rfl, rfl, rfl⟩
variable {r : Env} {ma : Env → M D} {Q : D → Sto → Prop}
theorem isi_str {h b : Nat} {d : D} {p : PyData} (g : Gd b0 S h b d p) (k : Q (.bl (kStr d)) S) : ∃ t, tyTn S d = some t ∧ Q (.bl (t.sub .tStr)) S := by
  obtain ⟨t, h1, h2, h3, h4, h5⟩ := g.ty
  exact ⟨t, h1, by rw [h2]; exact k⟩
theorem isi_tup {h b : Nat} {d : D} {p : PyData} (g : Gd b0 S h b d p) (k : Q (.bl (kTup d)) S) : ∃ t, tyTn S d = some t ∧ Q (.bl (t.sub .tTuple)) S := by
  obtain ⟨t, h1, h2, h3, h4, h5⟩ := g.ty
  exact ⟨t, h1, by rw [h3]; exact k⟩
theorem isi_int {h b : Nat} {d : D} {p : PyData} (g : Gd b0 S h b d p) (k : Q (.bl (kInt d)) S) : ∃ t, tyTn S d = some t ∧ Q (.bl (t.sub .tInt)) S := by
  obtain ⟨t, h1, h2, h3, h4, h5⟩ := g.ty
  exact ⟨t, h1, by rw [h4]; exact k⟩
theorem isi_bl {h b : Nat} {d : D} {p : PyData} (g : Gd b0 S h b d p) (k : Q (.bl (kBl d)) S) : ∃ t, tyTn S d = some t ∧ Q (.bl (t.sub .tBool)) S := by
  obtain ⟨t, h1, h2, h3, h4, h5⟩ := g.ty
  exact ⟨t, h1, by rw [h5]; exact k⟩
theorem kStr_of {d : D} (h : kStr d = true) : ∃ x, d = .str x := by cases d <;> first | exact ⟨_, rfl⟩ | cases h
theorem kTup_of {d : D} (h : kTup d = true) : ∃ x, d = .tup x := by cases d <;> first | exact ⟨_, rfl⟩ | cases h
theorem Gd.strI {h b : Nat} {x : Str} {p : PyData} (g : Gd b0 S h b (.str x) p) : PyData.strOk x = true ∧ 10 * x.length + 2 ≤ b := by
  cases g with
  | str k1 k2 => exact ⟨k1, k2⟩
theorem Gd.tupI {h b : Nat} {xs : List D} {p : PyData} (g : Gd b0 S h b (.tup xs) p) : ∃ h' B ps, h = h' + 1 ∧ p = .tuple ps ∧ GdA b0 S h' B xs ps ∧ B + 3 ≤ b := by
  cases g with
  | tup k1 k2 => exact ⟨_, _, _, rfl, rfl, k1, k2⟩
end
theorem low_list : low.cps.toList = (List.range 26).map (· + 97) := by decide +kernel
theorem low_is (c : Nat) : (!(Builtin.Str.occurrences low ⟨#[c]⟩ 0 low.length 1).isEmpty) = lw c := by
  rw [StrLaws.found_one, low_list]
  unfold lw
  rw [Bool.eq_iff_iff, Bool.and_eq_true, decide_eq_true_iff, decide_eq_true_iff, decide_eq_true_iff, List.mem_map]
  constructor
  · rintro ⟨a, h, rfl⟩
    have := List.mem_range.mp h
    omega
  · rintro ⟨h1, h2⟩
    exact ⟨c - 97, List.mem_range.mpr (by omega), by omega⟩
theorem run_ninS {S : Sto} {x z : Str} {Q : D → Sto → Prop} : Run (nmemD (.str x) (.str z)) S Q ↔ Q (.bl (!(!(Builtin.Str.occurrences z x 0 z.length 1).isEmpty))) S := by unfold nmemD; exact run_ofB rfl

end DL
namespace W
open PySem PySem.Spec PyProof.Rows L2 DL
def topS (i : Nat) : Stmt := PySem.Challenge.pw_recipelayers_k13_errors_apart.main.body.getD i (.Pass ⟨0, 0, 0, 0⟩)
def an_LayerError : Nat → Option Bool := anL [none, some true, some true, some true, some true, some true, some true, some true, some true, some true, some true, some true, some true]
def an_Wrong : Nat → Option Bool := anL [none, some true, some false, some false, some false, some false, some false, some false, some false, some false, some false, some false, some false]
def an_NoFolder : Nat → Option Bool := anL [none, some false, some true, some false, some false, some false, some false, some false, some false, some false, some false, some false, some false]
def an_NoLayer : Nat → Option Bool := anL [none, some false, some false, some true, some false, some false, some false, some false, some false, some false, some false, some false, some false]
def an_NoQuotient : Nat → Option Bool := anL [none, some false, some false, some false, some true, some false, some false, some false, some false, some false, some false, some false, some false]
def an_NoStage : Nat → Option Bool := anL [none, some false, some false, some false, some false, some true, some false, some false, some false, some false, some false, some false, some false]
def an_NoStep : Nat → Option Bool := anL [none, some false, some false, some false, some false, some false, some true, some false, some false, some false, some false, some false, some false]
def an_TooMany : Nat → Option Bool := anL [none, some false, some false, some false, some false, some false, some false, some true, some false, some false, some false, some false, some false]
def an_Unlike : Nat → Option Bool := anL [none, some false, some false, some false, some false, some false, some false, some false, some true, some false, some false, some false, some false]
def an_NoDeed : Nat → Option Bool := anL [none, some false, some false, some false, some false, some false, some false, some false, some false, some true, some false, some false, some false]
def an_Nothing : Nat → Option Bool := anL [none, some false, some false, some false, some false, some false, some false, some false, some false, some false, some true, some false, some false]
def an_Stopped : Nat → Option Bool := anL [none, some false, some false, some false, some false, some false, some false, some false, some false, some false, some false, some true, some false]
def an_NoText : Nat → Option Bool := anL [none, some false, some false, some false, some false, some false, some false, some false, some false, some false, some false, some false, some true]
def an_ValueError : Nat → Option Bool := anL [none, some true, some true, some true, some true, some true, some true, some true, some true, some true, some true, some true, some true]
abbrev s_Wrong_init : Stmt := clsAt (topS 2) 0
theorem sc_Wrong_init : FnScope ["self", "place"] ["self", "place"] (defScope s_Wrong_init) := ⟨rfl, rfl, rfl, by decide +kernel, rfl, by decide +kernel, by decide +kernel⟩
def b_Wrong_init : DL.Env → M Fl :=
    seqM (dropM (xinitM [1] (getv 0)))
    (xsetM [1] "place" (getv 0) (getv 1))
def m_Wrong_init : List D → M D := fnM 2 b_Wrong_init
abbrev s_NoFolder_init : Stmt := clsAt (topS 3) 0
theorem sc_NoFolder_init : FnScope ["self", "path"] ["self", "path"] (defScope s_NoFolder_init) := ⟨rfl, rfl, rfl, by decide +kernel, rfl, by decide +kernel, by decide +kernel⟩
def b_NoFolder_init : DL.Env → M Fl :=
    seqM (dropM (xinitM [2] (getv 0)))
    (xsetM [2] "path" (getv 0) (getv 1))
def m_NoFolder_init : List D → M D := fnM 2 b_NoFolder_init
abbrev s_NoLayer_init : Stmt := clsAt (topS 4) 0
theorem sc_NoLayer_init : FnScope ["self", "at"] ["self", "at"] (defScope s_NoLayer_init) := ⟨rfl, rfl, rfl, by decide +kernel, rfl, by decide +kernel, by decide +kernel⟩
def b_NoLayer_init : DL.Env → M Fl :=
    seqM (dropM (xinitM [3] (getv 0)))
    (xsetM [3] "at" (getv 0) (getv 1))
def m_NoLayer_init : List D → M D := fnM 2 b_NoLayer_init
abbrev s_NoStage_init : Stmt := clsAt (topS 6) 0
theorem sc_NoStage_init : FnScope ["self", "name"] ["self", "name"] (defScope s_NoStage_init) := ⟨rfl, rfl, rfl, by decide +kernel, rfl, by decide +kernel, by decide +kernel⟩
def b_NoStage_init : DL.Env → M Fl :=
    seqM (dropM (xinitM [5] (getv 0)))
    (xsetM [5] "name" (getv 0) (getv 1))
def m_NoStage_init : List D → M D := fnM 2 b_NoStage_init
abbrev s_NoStep_init : Stmt := clsAt (topS 7) 0
theorem sc_NoStep_init : FnScope ["self", "at"] ["self", "at"] (defScope s_NoStep_init) := ⟨rfl, rfl, rfl, by decide +kernel, rfl, by decide +kernel, by decide +kernel⟩
def b_NoStep_init : DL.Env → M Fl :=
    seqM (dropM (xinitM [6] (getv 0)))
    (xsetM [6] "at" (getv 0) (getv 1))
def m_NoStep_init : List D → M D := fnM 2 b_NoStep_init
abbrev s_TooMany_init : Stmt := clsAt (topS 8) 0
theorem sc_TooMany_init : FnScope ["self", "limit"] ["self", "limit"] (defScope s_TooMany_init) := ⟨rfl, rfl, rfl, by decide +kernel, rfl, by decide +kernel, by decide +kernel⟩
def b_TooMany_init : DL.Env → M Fl :=
    seqM (dropM (xinitM [7] (getv 0)))
    (xsetM [7] "limit" (getv 0) (getv 1))
def m_TooMany_init : List D → M D := fnM 2 b_TooMany_init
abbrev s_Stopped_init : Stmt := clsAt (topS 12) 0
theorem sc_Stopped_init : FnScope ["self", "at"] ["self", "at"] (defScope s_Stopped_init) := ⟨rfl, rfl, rfl, by decide +kernel, rfl, by decide +kernel, by decide +kernel⟩
def b_Stopped_init : DL.Env → M Fl :=
    seqM (dropM (xinitM [11] (getv 0)))
    (xsetM [11] "at" (getv 0) (getv 1))
def m_Stopped_init : List D → M D := fnM 2 b_Stopped_init
abbrev s__law_bag : Stmt := topS 15
theorem sc__law_bag : FnScope ["_law_script", "_law_cell"] ["_law_script"] (defScope s__law_bag) := ⟨rfl, rfl, rfl, by decide +kernel, rfl, by decide +kernel, by decide +kernel⟩
def b__law_bag : DL.Env → M Fl :=
    retM (lstM (consA (cst (.int 0)) (consA (cst (.int 1234567891)) (consA (cst (.int 0)) (consA (lcM [1] (itAny (slM (getv 0) (noP) (someP (cst (.int 63))))) (gNm 1) (yesM) (clM absD (consA (getv 1) (nilA)))) (nilA))))))
def m__law_bag : List D → M D := fnM 2 b__law_bag
abbrev s__law_field : Stmt := topS 20
theorem sc__law_field : FnScope ["_law_way", "_law_e"] ["_law_way", "_law_e"] (defScope s__law_field) := ⟨rfl, rfl, rfl, by decide +kernel, rfl, by decide +kernel, by decide +kernel⟩
def b__law_field : DL.Env → M Fl :=
    seqM (ifS (tstM (binM eqD (getv 0) (cst (.int 0)))) (retM (xfldM [1] "place" (getv 1))) (nxM))
    (seqM (ifS (tstM (binM eqD (getv 0) (cst (.int 1)))) (retM (xfldM [2] "path" (getv 1))) (nxM))
    (seqM (ifS (tstM (binM memD (getv 0) (tupM (consA (cst (.int 2)) (consA (cst (.int 4)) (consA (cst (.int 6)) (nilA))))))) (retM (xfldM [3, 6, 11] "at" (getv 1))) (nxM))
    (retM (ifM (tstM (binM eqD (getv 0) (cst (.int 3)))) (xfldM [5] "name" (getv 1)) (xfldM [7] "limit" (getv 1))))))
def m__law_field : List D → M D := fnM 2 b__law_field
abbrev s__law_kinds : Stmt := topS 19
theorem sc__law_kinds : FnScope ["_law_e", "_law_found"] ["_law_e"] (defScope s__law_kinds) := ⟨rfl, rfl, rfl, by decide +kernel, rfl, by decide +kernel, by decide +kernel⟩
def b__law_kinds : DL.Env → M Fl :=
    seqM (asgM (lstM (consA (isxM an_Wrong (getv 0)) (consA (isxM an_NoFolder (getv 0)) (consA (isxM an_NoLayer (getv 0)) (consA (isxM an_NoStage (getv 0)) (nilA)))))) (gNm 1))
    (seqM (asgM (binM addD (getv 1) (lstM (consA (isxM an_NoStep (getv 0)) (consA (isxM an_TooMany (getv 0)) (consA (isxM an_Stopped (getv 0)) (consA (isxM an_NoQuotient (getv 0)) (nilA))))))) (gNm 1))
    (seqM (asgM (binM addD (getv 1) (lstM (consA (isxM an_Unlike (getv 0)) (consA (isxM an_NoDeed (getv 0)) (consA (isxM an_Nothing (getv 0)) (consA (isxM an_NoText (getv 0)) (nilA))))))) (gNm 1))
    (retM (getv 1))))
def m__law_kinds : List D → M D := fnM 2 b__law_kinds
abbrev s__law_made : Stmt := topS 18
theorem sc__law_made : FnScope ["_law_way", "_law_thing"] ["_law_way", "_law_thing"] (defScope s__law_made) := ⟨rfl, rfl, rfl, by decide +kernel, rfl, by decide +kernel, by decide +kernel⟩
def b__law_made : DL.Env → M Fl :=
    seqM (ifS (tstM (binM ltD (getv 0) (cst (.int 4)))) (seqM (ifS (tstM (binM eqD (getv 0) (cst (.int 0)))) (retM (clM (mkxM 1 m_Wrong_init) (consA (getv 1) (nilA)))) (nxM))
    (seqM (ifS (tstM (binM eqD (getv 0) (cst (.int 1)))) (retM (clM (mkxM 2 m_NoFolder_init) (consA (getv 1) (nilA)))) (nxM))
    (retM (ifM (tstM (binM eqD (getv 0) (cst (.int 2)))) (clM (mkxM 3 m_NoLayer_init) (consA (getv 1) (nilA))) (clM (mkxM 5 m_NoStage_init) (consA (getv 1) (nilA))))))) (nxM))
    (seqM (ifS (tstM (binM ltD (getv 0) (cst (.int 7)))) (seqM (ifS (tstM (binM eqD (getv 0) (cst (.int 4)))) (retM (clM (mkxM 6 m_NoStep_init) (consA (getv 1) (nilA)))) (nxM))
    (retM (ifM (tstM (binM eqD (getv 0) (cst (.int 5)))) (clM (mkxM 7 m_TooMany_init) (consA (getv 1) (nilA))) (clM (mkxM 11 m_Stopped_init) (consA (getv 1) (nilA)))))) (nxM))
    (seqM (ifS (tstM (binM eqD (getv 0) (cst (.int 7)))) (retM (mkx0M 4)) (nxM))
    (seqM (ifS (tstM (binM eqD (getv 0) (cst (.int 8)))) (retM (mkx0M 8)) (nxM))
    (seqM (ifS (tstM (binM eqD (getv 0) (cst (.int 9)))) (retM (mkx0M 9)) (nxM))
    (retM (ifM (tstM (binM eqD (getv 0) (cst (.int 10)))) (mkx0M 10) (mkx0M 12)))))))
def m__law_made : List D → M D := fnM 2 b__law_made
abbrev s__law_take : Stmt := topS 16
theorem sc__law_take : FnScope ["_law_bag_here", "_law_many", "_law_cell", "_law_drawn", "_law_begin", "_law_second"] ["_law_bag_here", "_law_many"] (defScope s__law_take) := ⟨rfl, rfl, rfl, by decide +kernel, rfl, by decide +kernel, by decide +kernel⟩
def b__law_take : DL.Env → M Fl :=
    seqM (ifS (tstM (binM eqD (binM ixD (getv 0) (cst (.int 0))) (cst (.int 0)))) (seqM (asgM (cst (.int 0)) (gNm 2))
    (seqM (ifS (tstM (binM ltD (binM ixD (getv 0) (cst (.int 2))) (clM lenD (consA (binM ixD (getv 0) (cst (.int 3))) (nilA))))) (asgM (binM ixD (binM ixD (getv 0) (cst (.int 3))) (binM ixD (getv 0) (cst (.int 2)))) (gNm 2)) (nxM))
    (seqM (augSM (getv 0) (cst (.int 2)) (cst (.int 1)) getLD addI setLD)
    (seqM (ifS (tstM (binM geD (getv 2) (cst (.int 1000000000000000000)))) (asgM (getv 2) (gSb (getv 0) (cst (.int 0)) setLD)) (nxM))
    (asgM (binM modD (binM addD (binM addD (binM mulD (binM ixD (getv 0) (cst (.int 1))) (cst (.int 48271))) (binM modD (getv 2) (cst (.int 2147483647)))) (binM mulD (cst (.int 7919)) (binM ixD (getv 0) (cst (.int 2))))) (cst (.int 2147483647))) (gSb (getv 0) (cst (.int 1)) setLD)))))) (nxM))
    (seqM (ifS (tstM (binM gtD (binM ixD (getv 0) (cst (.int 0))) (cst (.int 0)))) (seqM (asgM (binM modD (binM ixD (getv 0) (cst (.int 0))) (getv 1)) (gNm 3))
    (seqM (asgM (binM fdivD (binM ixD (getv 0) (cst (.int 0))) (getv 1)) (gSb (getv 0) (cst (.int 0)) setLD))
    (retM (getv 3)))) (nxM))
    (seqM (asgM (binM modD (binM mulD (binM addD (binM ixD (getv 0) (cst (.int 1))) (cst (.int 1))) (cst (.int 39373))) (cst (.int 1000000007))) (gNm 4))
    (seqM (asgM (binM modD (binM mulD (binM modD (binM mulD (getv 4) (getv 4)) (cst (.int 998244353))) (cst (.int 30011))) (cst (.int 998244353))) (gNm 5))
    (seqM (ifS (tstM (binM gtD (getv 1) (cst (.int 1000000)))) (retM (binM modD (binM addD (binM mulD (getv 5) (cst (.int 1000000007))) (getv 4)) (getv 1))) (nxM))
    (retM (binM modD (binM fdivD (getv 5) (cst (.int 7))) (getv 1)))))))
def m__law_take : List D → M D := fnM 6 b__law_take
abbrev s__law_odd : Stmt := topS 17
theorem sc__law_odd : FnScope ["_law_bag_here", "_law_deep", "_law_k", "_law_some"] ["_law_bag_here"] (defScope s__law_odd) := ⟨rfl, rfl, rfl, by decide +kernel, rfl, by decide +kernel, by decide +kernel⟩
def b__law_odd : DL.Env → M Fl :=
    seqM (asgM (cst (.str "a")) (gNm 1))
    (seqM (forM_ (itRng1 (consA (cst (.int 9)) (nilA))) (gNm 2) (asgM (lstM (consA (getv 1) (nilA))) (gNm 1)))
    (seqM (asgM (lstM (consA (cst .non) (consA (cst (.bl true)) (consA (cst (.bl false)) (consA (cst (.int 0)) (consA (cst (.int 1)) (consA (unM negD (cst (.int 1))) (consA (cst (.int 7)) (consA (cst (.int 8)) (consA (binM powD (cst (.int 10)) (cst (.int 39))) (consA (cst (.str "")) (consA (cst (.str "a")) (consA (cst (.str "A")) (consA (cst (.str "abcdefgh")) (consA (cst (.str "abcdefghi")) (consA (cst (.str "a b")) (consA (binM mulD (cst (.str "x")) (cst (.int 21))) (nilA)))))))))))))))))) (gNm 3))
    (seqM (asgM (binM addD (getv 3) (lstM (consA (tupM (nilA)) (consA (lstM (nilA)) (consA (dnewM) (consA (tupM (consA (cst (.str "a")) (nilA))) (consA (tupM (consA (cst (.str "a")) (consA (cst (.str "b")) (nilA)))) (consA (lstM (consA (tupM (consA (cst (.str "a")) (nilA))) (nilA))) (consA (dispM (pconM (cst (.str "a")) (cst (.str "b")) (pnilM))) (consA (getv 1) (consA (binM mulD (lstM (consA (cst (.int 0)) (nilA))) (cst (.int 9000))) (nilA)))))))))))) (gNm 3))
    (seqM (asgM (binM addD (getv 3) (lstM (consA (tupM (consA (cst (.str "made")) (consA (cst (.str "zip")) (consA (tupM (nilA)) (nilA))))) (consA (tupM (consA (cst (.str "made")) (consA (cst (.str "zip")) (consA (tupM (consA (cst (.str "a")) (consA (cst .non) (nilA)))) (nilA))))) (nilA))))) (gNm 3))
    (retM (binM ixD (getv 3) (clM (m__law_take) (consA (getv 0) (consA (cst (.int 27)) (nilA))))))))))
def m__law_odd : List D → M D := fnM 4 b__law_odd
abbrev s_law : Stmt := topS 21
theorem sc_law : FnScope ["_law_script", "_law_bag_here", "_law_way", "_law_held", "_law_plain", "_law_e", "_law_kept_text", "_law_told", "_law_kind"] ["_law_script"] (defScope s_law) := ⟨rfl, rfl, rfl, by decide +kernel, rfl, by decide +kernel, by decide +kernel⟩
def b_law : DL.Env → M Fl :=
    seqM (asgM (clM (m__law_bag) (consA (getv 0) (nilA))) (gNm 1))
    (seqM (forM_ (itRng1 (consA (cst (.int 12)) (nilA))) (gNm 2) (seqM (parM 3 4 (consA (lstM (consA (clM (m__law_odd) (consA (getv 1) (nilA))) (nilA))) (consA (clM (m__law_odd) (consA (getv 1) (nilA))) (nilA))))
    (seqM (ifS (andT (tstM (binM ltD (getv 2) (cst (.int 7)))) (tstM (binM neD (clM reprD (consA (clM (m__law_field) (consA (getv 2) (consA (clM (m__law_made) (consA (getv 2) (consA (getv 4) (nilA)))) (nilA)))) (nilA))) (clM reprD (consA (getv 4) (nilA)))))) (retM (cst (.bl false))) (nxM))
    (seqM (asgM (clM (m__law_made) (consA (getv 2) (consA (getv 3) (nilA)))) (gNm 5))
    (seqM (ifS (orT (notT (tstM (isxM an_LayerError (getv 5)))) (notT (tstM (isxM an_ValueError (getv 5))))) (retM (cst (.bl false))) (nxM))
    (seqM (ifS (tstM (binM neD (clM (m__law_kinds) (consA (getv 5) (nilA))) (lcM [8] (itRng1 (consA (cst (.int 12)) (nilA))) (gNm 8) (yesM) (binM eqD (getv 8) (getv 2))))) (retM (cst (.bl false))) (nxM))
    (ifS (tstM (binM ltD (getv 2) (cst (.int 7)))) (seqM (asgM (clM reprD (consA (getv 3) (nilA))) (gNm 6))
    (seqM (ifS (tstM (binM neD (clM reprD (consA (clM (m__law_field) (consA (getv 2) (consA (getv 5) (nilA)))) (nilA))) (getv 6))) (retM (cst (.bl false))) (nxM))
    (seqM (dropM (mtM "list" appendD (getv 3) (consA (clM (m__law_take) (consA (getv 1) (consA (cst (.int 9)) (nilA)))) (nilA))))
    (seqM (ifS (orT (tstM (binM neD (clM reprD (consA (clM (m__law_field) (consA (getv 2) (consA (getv 5) (nilA)))) (nilA))) (clM reprD (consA (getv 3) (nilA))))) (tstM (binM eqD (clM reprD (consA (getv 3) (nilA))) (getv 6)))) (retM (cst (.bl false))) (nxM))
    (seqM (asgM (clM (m__law_field) (consA (getv 2) (consA (getv 5) (nilA)))) (gNm 7))
    (seqM (dropM (mtM "list" appendD (getv 7) (consA (cst .non) (nilA))))
    (ifS (tstM (binM neD (clM lenD (consA (getv 3) (nilA))) (cst (.int 3)))) (retM (cst (.bl false))) (nxM)))))))) (nxM))))))))
    (retM (cst (.bl true))))
def m_law : List D → M D := fnM 9 b_law
structure Txt (K : PySem.W.Frag) (mg : Str → Option Value) (Γ : Nat → Addr) : Prop where
  d__law_bag : DefOk K mg "_law_bag" "_law_bag" s__law_bag ["_law_script"]
  d__law_field : DefOk K mg "_law_field" "_law_field" s__law_field ["_law_way", "_law_e"]
  d__law_kinds : DefOk K mg "_law_kinds" "_law_kinds" s__law_kinds ["_law_e"]
  d__law_made : DefOk K mg "_law_made" "_law_made" s__law_made ["_law_way", "_law_thing"]
  d__law_take : DefOk K mg "_law_take" "_law_take" s__law_take ["_law_bag_here", "_law_many"]
  d__law_odd : DefOk K mg "_law_odd" "_law_odd" s__law_odd ["_law_bag_here"]
  d_law : DefOk K mg "law" "law" s_law ["_law_script"]
  n_ValueError : mg "ValueError" = none
  n_abs : mg "abs" = none
  n_isinstance : mg "isinstance" = none
  n_len : mg "len" = none
  n_range : mg "range" = none
  n_repr : mg "repr" = none
  d_Wrong_init : InitOk K (Γ 1) "Wrong.__init__" s_Wrong_init ["self", "place"]
  d_NoFolder_init : InitOk K (Γ 2) "NoFolder.__init__" s_NoFolder_init ["self", "path"]
  d_NoLayer_init : InitOk K (Γ 3) "NoLayer.__init__" s_NoLayer_init ["self", "at"]
  d_NoStage_init : InitOk K (Γ 5) "NoStage.__init__" s_NoStage_init ["self", "name"]
  d_NoStep_init : InitOk K (Γ 6) "NoStep.__init__" s_NoStep_init ["self", "at"]
  d_TooMany_init : InitOk K (Γ 7) "TooMany.__init__" s_TooMany_init ["self", "limit"]
  d_Stopped_init : InitOk K (Γ 11) "Stopped.__init__" s_Stopped_init ["self", "at"]
  g_LayerError : mg "LayerError" = some (.ref (Γ 0))
  g_Wrong : mg "Wrong" = some (.ref (Γ 1))
  g_NoFolder : mg "NoFolder" = some (.ref (Γ 2))
  g_NoLayer : mg "NoLayer" = some (.ref (Γ 3))
  g_NoQuotient : mg "NoQuotient" = some (.ref (Γ 4))
  g_NoStage : mg "NoStage" = some (.ref (Γ 5))
  g_NoStep : mg "NoStep" = some (.ref (Γ 6))
  g_TooMany : mg "TooMany" = some (.ref (Γ 7))
  g_Unlike : mg "Unlike" = some (.ref (Γ 8))
  g_NoDeed : mg "NoDeed" = some (.ref (Γ 9))
  g_Nothing : mg "Nothing" = some (.ref (Γ 10))
  g_Stopped : mg "Stopped" = some (.ref (Γ 11))
  g_NoText : mg "NoText" = some (.ref (Γ 12))
  x_LayerError : XCls K (Γ 0)
  x_Wrong : XCls K (Γ 1)
  x_NoFolder : XCls K (Γ 2)
  x_NoLayer : XCls K (Γ 3)
  x_NoQuotient : XCls K (Γ 4)
  x_NoStage : XCls K (Γ 5)
  x_NoStep : XCls K (Γ 6)
  x_TooMany : XCls K (Γ 7)
  x_Unlike : XCls K (Γ 8)
  x_NoDeed : XCls K (Γ 9)
  x_Nothing : XCls K (Γ 10)
  x_Stopped : XCls K (Γ 11)
  x_NoText : XCls K (Γ 12)
  f_NoFolder_path : NoF K (Γ 2) "path"
  f_NoLayer_at : NoF K (Γ 3) "at"
  f_NoStage_name : NoF K (Γ 5) "name"
  f_NoStep_at : NoF K (Γ 6) "at"
  f_Stopped_at : NoF K (Γ 11) "at"
  f_TooMany_limit : NoF K (Γ 7) "limit"
  f_Wrong_place : NoF K (Γ 1) "place"
  e_NoQuotient : PySem.W.excIn K (Γ 4) [.type "ValueError", .type "Exception", .type "BaseException", .type "object"] "ValueError.__new__" = true
  e_Unlike : PySem.W.excIn K (Γ 8) [.type "ValueError", .type "Exception", .type "BaseException", .type "object"] "ValueError.__new__" = true
  e_NoDeed : PySem.W.excIn K (Γ 9) [.type "ValueError", .type "Exception", .type "BaseException", .type "object"] "ValueError.__new__" = true
  e_Nothing : PySem.W.excIn K (Γ 10) [.type "ValueError", .type "Exception", .type "BaseException", .type "object"] "ValueError.__new__" = true
  e_NoText : PySem.W.excIn K (Γ 12) [.type "ValueError", .type "Exception", .type "BaseException", .type "object"] "ValueError.__new__" = true
  r_LayerError : ClX.CRead K (Γ 0) (.type "type")
  a_LayerError : PySem.W.findCls K (.ref (Γ 0)) (.type "type") "__init__" = some (.val (.builtin "ValueError.__init__"))
  i_LayerError : ∀ n b, an_LayerError n = some b → XCls K (Γ n) ∧ PySem.W.kitOne K (.ref (Γ n)) (.ref (Γ 0)) = some b
  i_Wrong : ∀ n b, an_Wrong n = some b → XCls K (Γ n) ∧ PySem.W.kitOne K (.ref (Γ n)) (.ref (Γ 1)) = some b
  i_NoFolder : ∀ n b, an_NoFolder n = some b → XCls K (Γ n) ∧ PySem.W.kitOne K (.ref (Γ n)) (.ref (Γ 2)) = some b
  i_NoLayer : ∀ n b, an_NoLayer n = some b → XCls K (Γ n) ∧ PySem.W.kitOne K (.ref (Γ n)) (.ref (Γ 3)) = some b
  i_NoQuotient : ∀ n b, an_NoQuotient n = some b → XCls K (Γ n) ∧ PySem.W.kitOne K (.ref (Γ n)) (.ref (Γ 4)) = some b
  i_NoStage : ∀ n b, an_NoStage n = some b → XCls K (Γ n) ∧ PySem.W.kitOne K (.ref (Γ n)) (.ref (Γ 5)) = some b
  i_NoStep : ∀ n b, an_NoStep n = some b → XCls K (Γ n) ∧ PySem.W.kitOne K (.ref (Γ n)) (.ref (Γ 6)) = some b
  i_TooMany : ∀ n b, an_TooMany n = some b → XCls K (Γ n) ∧ PySem.W.kitOne K (.ref (Γ n)) (.ref (Γ 7)) = some b
  i_Unlike : ∀ n b, an_Unlike n = some b → XCls K (Γ n) ∧ PySem.W.kitOne K (.ref (Γ n)) (.ref (Γ 8)) = some b
  i_NoDeed : ∀ n b, an_NoDeed n = some b → XCls K (Γ n) ∧ PySem.W.kitOne K (.ref (Γ n)) (.ref (Γ 9)) = some b
  i_Nothing : ∀ n b, an_Nothing n = some b → XCls K (Γ n) ∧ PySem.W.kitOne K (.ref (Γ n)) (.ref (Γ 10)) = some b
  i_Stopped : ∀ n b, an_Stopped n = some b → XCls K (Γ n) ∧ PySem.W.kitOne K (.ref (Γ n)) (.ref (Γ 11)) = some b
  i_NoText : ∀ n b, an_NoText n = some b → XCls K (Γ n) ∧ PySem.W.kitOne K (.ref (Γ n)) (.ref (Γ 12)) = some b
  i_ValueError : ∀ n b, an_ValueError n = some b → XCls K (Γ n) ∧ PySem.W.kitOne K (.ref (Γ n)) (.type "ValueError") = some b
section
variable {P : Program} {w : World} {K : PySem.W.Frag} {mg : Str → Option Value} {base : Heap} {Γ : Nat → Addr}
theorem txt_mk {h : Heap} {C0 C1 C2 C3 C4 C5 C6 C7 C8 C9 C10 C11 C12 : Addr} (X : K.In h) (G : h.Ns mainGlobals mg) (d__law_bag : DefOk K mg "_law_bag" "_law_bag" s__law_bag ["_law_script"]) (d__law_field : DefOk K mg "_law_field" "_law_field" s__law_field ["_law_way", "_law_e"]) (d__law_kinds : DefOk K mg "_law_kinds" "_law_kinds" s__law_kinds ["_law_e"]) (d__law_made : DefOk K mg "_law_made" "_law_made" s__law_made ["_law_way", "_law_thing"]) (d__law_take : DefOk K mg "_law_take" "_law_take" s__law_take ["_law_bag_here", "_law_many"]) (d__law_odd : DefOk K mg "_law_odd" "_law_odd" s__law_odd ["_law_bag_here"]) (d_law : DefOk K mg "law" "law" s_law ["_law_script"]) (n_ValueError : mg "ValueError" = none) (n_abs : mg "abs" = none) (n_isinstance : mg "isinstance" = none) (n_len : mg "len" = none) (n_range : mg "range" = none) (n_repr : mg "repr" = none) (g_LayerError : PySem.W.nsIn K mainGlobals "LayerError" = some (some (.ref C0))) (g_Wrong : PySem.W.nsIn K mainGlobals "Wrong" = some (some (.ref C1))) (g_NoFolder : PySem.W.nsIn K mainGlobals "NoFolder" = some (some (.ref C2))) (g_NoLayer : PySem.W.nsIn K mainGlobals "NoLayer" = some (some (.ref C3))) (g_NoQuotient : PySem.W.nsIn K mainGlobals "NoQuotient" = some (some (.ref C4))) (g_NoStage : PySem.W.nsIn K mainGlobals "NoStage" = some (some (.ref C5))) (g_NoStep : PySem.W.nsIn K mainGlobals "NoStep" = some (some (.ref C6))) (g_TooMany : PySem.W.nsIn K mainGlobals "TooMany" = some (some (.ref C7))) (g_Unlike : PySem.W.nsIn K mainGlobals "Unlike" = some (some (.ref C8))) (g_NoDeed : PySem.W.nsIn K mainGlobals "NoDeed" = some (some (.ref C9))) (g_Nothing : PySem.W.nsIn K mainGlobals "Nothing" = some (some (.ref C10))) (g_Stopped : PySem.W.nsIn K mainGlobals "Stopped" = some (some (.ref C11))) (g_NoText : PySem.W.nsIn K mainGlobals "NoText" = some (some (.ref C12))) (d_Wrong_init : InitOk K C1 "Wrong.__init__" s_Wrong_init ["self", "place"]) (d_NoFolder_init : InitOk K C2 "NoFolder.__init__" s_NoFolder_init ["self", "path"]) (d_NoLayer_init : InitOk K C3 "NoLayer.__init__" s_NoLayer_init ["self", "at"]) (d_NoStage_init : InitOk K C5 "NoStage.__init__" s_NoStage_init ["self", "name"]) (d_NoStep_init : InitOk K C6 "NoStep.__init__" s_NoStep_init ["self", "at"]) (d_TooMany_init : InitOk K C7 "TooMany.__init__" s_TooMany_init ["self", "limit"]) (d_Stopped_init : InitOk K C11 "Stopped.__init__" s_Stopped_init ["self", "at"]) (x_LayerError : XCls K C0) (x_Wrong : XCls K C1) (x_NoFolder : XCls K C2) (x_NoLayer : XCls K C3) (x_NoQuotient : XCls K C4) (x_NoStage : XCls K C5) (x_NoStep : XCls K C6) (x_TooMany : XCls K C7) (x_Unlike : XCls K C8) (x_NoDeed : XCls K C9) (x_Nothing : XCls K C10) (x_Stopped : XCls K C11) (x_NoText : XCls K C12) (f_NoFolder_path : PySem.W.findIn K (.ref C2) "path" = some none) (f_NoLayer_at : PySem.W.findIn K (.ref C3) "at" = some none) (f_NoStage_name : PySem.W.findIn K (.ref C5) "name" = some none) (f_NoStep_at : PySem.W.findIn K (.ref C6) "at" = some none) (f_Stopped_at : PySem.W.findIn K (.ref C11) "at" = some none) (f_TooMany_limit : PySem.W.findIn K (.ref C7) "limit" = some none) (f_Wrong_place : PySem.W.findIn K (.ref C1) "place" = some none) (e_NoQuotient : PySem.W.excIn K C4 [.type "ValueError", .type "Exception", .type "BaseException", .type "object"] "ValueError.__new__" = true) (e_Unlike : PySem.W.excIn K C8 [.type "ValueError", .type "Exception", .type "BaseException", .type "object"] "ValueError.__new__" = true) (e_NoDeed : PySem.W.excIn K C9 [.type "ValueError", .type "Exception", .type "BaseException", .type "object"] "ValueError.__new__" = true) (e_Nothing : PySem.W.excIn K C10 [.type "ValueError", .type "Exception", .type "BaseException", .type "object"] "ValueError.__new__" = true) (e_NoText : PySem.W.excIn K C12 [.type "ValueError", .type "Exception", .type "BaseException", .type "object"] "ValueError.__new__" = true) (r1_LayerError : PySem.W.readsIn K C0 (.type "type") = true) (r2_LayerError : PySem.W.specialIn K (.ref C0) "__getattribute__" = some (some (.builtin "type.__getattribute__"))) (a_LayerError : PySem.W.findCls K (.ref C0) (.type "type") "__init__" = some (.val (.builtin "ValueError.__init__"))) (s_LayerError_LayerError : PySem.W.subIn K (.ref C0) (.ref C0) = some true) (s_Wrong_Wrong : PySem.W.subIn K (.ref C1) (.ref C1) = some true) (s_NoFolder_NoFolder : PySem.W.subIn K (.ref C2) (.ref C2) = some true) (s_NoLayer_NoLayer : PySem.W.subIn K (.ref C3) (.ref C3) = some true) (s_NoQuotient_NoQuotient : PySem.W.subIn K (.ref C4) (.ref C4) = some true) (s_NoStage_NoStage : PySem.W.subIn K (.ref C5) (.ref C5) = some true) (s_NoStep_NoStep : PySem.W.subIn K (.ref C6) (.ref C6) = some true) (s_TooMany_TooMany : PySem.W.subIn K (.ref C7) (.ref C7) = some true) (s_Unlike_Unlike : PySem.W.subIn K (.ref C8) (.ref C8) = some true) (s_NoDeed_NoDeed : PySem.W.subIn K (.ref C9) (.ref C9) = some true) (s_Nothing_Nothing : PySem.W.subIn K (.ref C10) (.ref C10) = some true) (s_Stopped_Stopped : PySem.W.subIn K (.ref C11) (.ref C11) = some true) (s_NoText_NoText : PySem.W.subIn K (.ref C12) (.ref C12) = some true) (s_NoText_LayerError : PySem.W.subIn K (.ref C12) (.ref C0) = some true) (s_Stopped_LayerError : PySem.W.subIn K (.ref C11) (.ref C0) = some true) (s_Nothing_LayerError : PySem.W.subIn K (.ref C10) (.ref C0) = some true) (s_NoDeed_LayerError : PySem.W.subIn K (.ref C9) (.ref C0) = some true) (s_Unlike_LayerError : PySem.W.subIn K (.ref C8) (.ref C0) = some true) (s_TooMany_LayerError : PySem.W.subIn K (.ref C7) (.ref C0) = some true) (s_NoStep_LayerError : PySem.W.subIn K (.ref C6) (.ref C0) = some true) (s_NoStage_LayerError : PySem.W.subIn K (.ref C5) (.ref C0) = some true) (s_NoQuotient_LayerError : PySem.W.subIn K (.ref C4) (.ref C0) = some true) (s_NoLayer_LayerError : PySem.W.subIn K (.ref C3) (.ref C0) = some true) (s_NoFolder_LayerError : PySem.W.subIn K (.ref C2) (.ref C0) = some true) (s_Wrong_LayerError : PySem.W.subIn K (.ref C1) (.ref C0) = some true) (s_NoText_Wrong : PySem.W.subIn K (.ref C12) (.ref C1) = some false) (s_Stopped_Wrong : PySem.W.subIn K (.ref C11) (.ref C1) = some false) (s_Nothing_Wrong : PySem.W.subIn K (.ref C10) (.ref C1) = some false) (s_NoDeed_Wrong : PySem.W.subIn K (.ref C9) (.ref C1) = some false) (s_Unlike_Wrong : PySem.W.subIn K (.ref C8) (.ref C1) = some false) (s_TooMany_Wrong : PySem.W.subIn K (.ref C7) (.ref C1) = some false) (s_NoStep_Wrong : PySem.W.subIn K (.ref C6) (.ref C1) = some false) (s_NoStage_Wrong : PySem.W.subIn K (.ref C5) (.ref C1) = some false) (s_NoQuotient_Wrong : PySem.W.subIn K (.ref C4) (.ref C1) = some false) (s_NoLayer_Wrong : PySem.W.subIn K (.ref C3) (.ref C1) = some false) (s_NoFolder_Wrong : PySem.W.subIn K (.ref C2) (.ref C1) = some false) (s_NoText_NoFolder : PySem.W.subIn K (.ref C12) (.ref C2) = some false) (s_Stopped_NoFolder : PySem.W.subIn K (.ref C11) (.ref C2) = some false) (s_Nothing_NoFolder : PySem.W.subIn K (.ref C10) (.ref C2) = some false) (s_NoDeed_NoFolder : PySem.W.subIn K (.ref C9) (.ref C2) = some false) (s_Unlike_NoFolder : PySem.W.subIn K (.ref C8) (.ref C2) = some false) (s_TooMany_NoFolder : PySem.W.subIn K (.ref C7) (.ref C2) = some false) (s_NoStep_NoFolder : PySem.W.subIn K (.ref C6) (.ref C2) = some false) (s_NoStage_NoFolder : PySem.W.subIn K (.ref C5) (.ref C2) = some false) (s_NoQuotient_NoFolder : PySem.W.subIn K (.ref C4) (.ref C2) = some false) (s_NoLayer_NoFolder : PySem.W.subIn K (.ref C3) (.ref C2) = some false) (s_Wrong_NoFolder : PySem.W.subIn K (.ref C1) (.ref C2) = some false) (s_NoText_NoLayer : PySem.W.subIn K (.ref C12) (.ref C3) = some false) (s_Stopped_NoLayer : PySem.W.subIn K (.ref C11) (.ref C3) = some false) (s_Nothing_NoLayer : PySem.W.subIn K (.ref C10) (.ref C3) = some false) (s_NoDeed_NoLayer : PySem.W.subIn K (.ref C9) (.ref C3) = some false) (s_Unlike_NoLayer : PySem.W.subIn K (.ref C8) (.ref C3) = some false) (s_TooMany_NoLayer : PySem.W.subIn K (.ref C7) (.ref C3) = some false) (s_NoStep_NoLayer : PySem.W.subIn K (.ref C6) (.ref C3) = some false) (s_NoStage_NoLayer : PySem.W.subIn K (.ref C5) (.ref C3) = some false) (s_NoQuotient_NoLayer : PySem.W.subIn K (.ref C4) (.ref C3) = some false) (s_NoFolder_NoLayer : PySem.W.subIn K (.ref C2) (.ref C3) = some false) (s_Wrong_NoLayer : PySem.W.subIn K (.ref C1) (.ref C3) = some false) (s_NoText_NoQuotient : PySem.W.subIn K (.ref C12) (.ref C4) = some false) (s_Stopped_NoQuotient : PySem.W.subIn K (.ref C11) (.ref C4) = some false) (s_Nothing_NoQuotient : PySem.W.subIn K (.ref C10) (.ref C4) = some false) (s_NoDeed_NoQuotient : PySem.W.subIn K (.ref C9) (.ref C4) = some false) (s_Unlike_NoQuotient : PySem.W.subIn K (.ref C8) (.ref C4) = some false) (s_TooMany_NoQuotient : PySem.W.subIn K (.ref C7) (.ref C4) = some false) (s_NoStep_NoQuotient : PySem.W.subIn K (.ref C6) (.ref C4) = some false) (s_NoStage_NoQuotient : PySem.W.subIn K (.ref C5) (.ref C4) = some false) (s_NoLayer_NoQuotient : PySem.W.subIn K (.ref C3) (.ref C4) = some false) (s_NoFolder_NoQuotient : PySem.W.subIn K (.ref C2) (.ref C4) = some false) (s_Wrong_NoQuotient : PySem.W.subIn K (.ref C1) (.ref C4) = some false) (s_NoText_NoStage : PySem.W.subIn K (.ref C12) (.ref C5) = some false) (s_Stopped_NoStage : PySem.W.subIn K (.ref C11) (.ref C5) = some false) (s_Nothing_NoStage : PySem.W.subIn K (.ref C10) (.ref C5) = some false) (s_NoDeed_NoStage : PySem.W.subIn K (.ref C9) (.ref C5) = some false) (s_Unlike_NoStage : PySem.W.subIn K (.ref C8) (.ref C5) = some false) (s_TooMany_NoStage : PySem.W.subIn K (.ref C7) (.ref C5) = some false) (s_NoStep_NoStage : PySem.W.subIn K (.ref C6) (.ref C5) = some false) (s_NoQuotient_NoStage : PySem.W.subIn K (.ref C4) (.ref C5) = some false) (s_NoLayer_NoStage : PySem.W.subIn K (.ref C3) (.ref C5) = some false) (s_NoFolder_NoStage : PySem.W.subIn K (.ref C2) (.ref C5) = some false) (s_Wrong_NoStage : PySem.W.subIn K (.ref C1) (.ref C5) = some false) (s_NoText_NoStep : PySem.W.subIn K (.ref C12) (.ref C6) = some false) (s_Stopped_NoStep : PySem.W.subIn K (.ref C11) (.ref C6) = some false) (s_Nothing_NoStep : PySem.W.subIn K (.ref C10) (.ref C6) = some false) (s_NoDeed_NoStep : PySem.W.subIn K (.ref C9) (.ref C6) = some false) (s_Unlike_NoStep : PySem.W.subIn K (.ref C8) (.ref C6) = some false) (s_TooMany_NoStep : PySem.W.subIn K (.ref C7) (.ref C6) = some false) (s_NoStage_NoStep : PySem.W.subIn K (.ref C5) (.ref C6) = some false) (s_NoQuotient_NoStep : PySem.W.subIn K (.ref C4) (.ref C6) = some false) (s_NoLayer_NoStep : PySem.W.subIn K (.ref C3) (.ref C6) = some false) (s_NoFolder_NoStep : PySem.W.subIn K (.ref C2) (.ref C6) = some false) (s_Wrong_NoStep : PySem.W.subIn K (.ref C1) (.ref C6) = some false) (s_NoText_TooMany : PySem.W.subIn K (.ref C12) (.ref C7) = some false) (s_Stopped_TooMany : PySem.W.subIn K (.ref C11) (.ref C7) = some false) (s_Nothing_TooMany : PySem.W.subIn K (.ref C10) (.ref C7) = some false) (s_NoDeed_TooMany : PySem.W.subIn K (.ref C9) (.ref C7) = some false) (s_Unlike_TooMany : PySem.W.subIn K (.ref C8) (.ref C7) = some false) (s_NoStep_TooMany : PySem.W.subIn K (.ref C6) (.ref C7) = some false) (s_NoStage_TooMany : PySem.W.subIn K (.ref C5) (.ref C7) = some false) (s_NoQuotient_TooMany : PySem.W.subIn K (.ref C4) (.ref C7) = some false) (s_NoLayer_TooMany : PySem.W.subIn K (.ref C3) (.ref C7) = some false) (s_NoFolder_TooMany : PySem.W.subIn K (.ref C2) (.ref C7) = some false) (s_Wrong_TooMany : PySem.W.subIn K (.ref C1) (.ref C7) = some false) (s_NoText_Unlike : PySem.W.subIn K (.ref C12) (.ref C8) = some false) (s_Stopped_Unlike : PySem.W.subIn K (.ref C11) (.ref C8) = some false) (s_Nothing_Unlike : PySem.W.subIn K (.ref C10) (.ref C8) = some false) (s_NoDeed_Unlike : PySem.W.subIn K (.ref C9) (.ref C8) = some false) (s_TooMany_Unlike : PySem.W.subIn K (.ref C7) (.ref C8) = some false) (s_NoStep_Unlike : PySem.W.subIn K (.ref C6) (.ref C8) = some false) (s_NoStage_Unlike : PySem.W.subIn K (.ref C5) (.ref C8) = some false) (s_NoQuotient_Unlike : PySem.W.subIn K (.ref C4) (.ref C8) = some false) (s_NoLayer_Unlike : PySem.W.subIn K (.ref C3) (.ref C8) = some false) (s_NoFolder_Unlike : PySem.W.subIn K (.ref C2) (.ref C8) = some false) (s_Wrong_Unlike : PySem.W.subIn K (.ref C1) (.ref C8) = some false) (s_NoText_NoDeed : PySem.W.subIn K (.ref C12) (.ref C9) = some false) (s_Stopped_NoDeed : PySem.W.subIn K (.ref C11) (.ref C9) = some false) (s_Nothing_NoDeed : PySem.W.subIn K (.ref C10) (.ref C9) = some false) (s_Unlike_NoDeed : PySem.W.subIn K (.ref C8) (.ref C9) = some false) (s_TooMany_NoDeed : PySem.W.subIn K (.ref C7) (.ref C9) = some false) (s_NoStep_NoDeed : PySem.W.subIn K (.ref C6) (.ref C9) = some false) (s_NoStage_NoDeed : PySem.W.subIn K (.ref C5) (.ref C9) = some false) (s_NoQuotient_NoDeed : PySem.W.subIn K (.ref C4) (.ref C9) = some false) (s_NoLayer_NoDeed : PySem.W.subIn K (.ref C3) (.ref C9) = some false) (s_NoFolder_NoDeed : PySem.W.subIn K (.ref C2) (.ref C9) = some false) (s_Wrong_NoDeed : PySem.W.subIn K (.ref C1) (.ref C9) = some false) (s_NoText_Nothing : PySem.W.subIn K (.ref C12) (.ref C10) = some false) (s_Stopped_Nothing : PySem.W.subIn K (.ref C11) (.ref C10) = some false) (s_NoDeed_Nothing : PySem.W.subIn K (.ref C9) (.ref C10) = some false) (s_Unlike_Nothing : PySem.W.subIn K (.ref C8) (.ref C10) = some false) (s_TooMany_Nothing : PySem.W.subIn K (.ref C7) (.ref C10) = some false) (s_NoStep_Nothing : PySem.W.subIn K (.ref C6) (.ref C10) = some false) (s_NoStage_Nothing : PySem.W.subIn K (.ref C5) (.ref C10) = some false) (s_NoQuotient_Nothing : PySem.W.subIn K (.ref C4) (.ref C10) = some false) (s_NoLayer_Nothing : PySem.W.subIn K (.ref C3) (.ref C10) = some false) (s_NoFolder_Nothing : PySem.W.subIn K (.ref C2) (.ref C10) = some false) (s_Wrong_Nothing : PySem.W.subIn K (.ref C1) (.ref C10) = some false) (s_NoText_Stopped : PySem.W.subIn K (.ref C12) (.ref C11) = some false) (s_Nothing_Stopped : PySem.W.subIn K (.ref C10) (.ref C11) = some false) (s_NoDeed_Stopped : PySem.W.subIn K (.ref C9) (.ref C11) = some false) (s_Unlike_Stopped : PySem.W.subIn K (.ref C8) (.ref C11) = some false) (s_TooMany_Stopped : PySem.W.subIn K (.ref C7) (.ref C11) = some false) (s_NoStep_Stopped : PySem.W.subIn K (.ref C6) (.ref C11) = some false) (s_NoStage_Stopped : PySem.W.subIn K (.ref C5) (.ref C11) = some false) (s_NoQuotient_Stopped : PySem.W.subIn K (.ref C4) (.ref C11) = some false) (s_NoLayer_Stopped : PySem.W.subIn K (.ref C3) (.ref C11) = some false) (s_NoFolder_Stopped : PySem.W.subIn K (.ref C2) (.ref C11) = some false) (s_Wrong_Stopped : PySem.W.subIn K (.ref C1) (.ref C11) = some false) (s_Stopped_NoText : PySem.W.subIn K (.ref C11) (.ref C12) = some false) (s_Nothing_NoText : PySem.W.subIn K (.ref C10) (.ref C12) = some false) (s_NoDeed_NoText : PySem.W.subIn K (.ref C9) (.ref C12) = some false) (s_Unlike_NoText : PySem.W.subIn K (.ref C8) (.ref C12) = some false) (s_TooMany_NoText : PySem.W.subIn K (.ref C7) (.ref C12) = some false) (s_NoStep_NoText : PySem.W.subIn K (.ref C6) (.ref C12) = some false) (s_NoStage_NoText : PySem.W.subIn K (.ref C5) (.ref C12) = some false) (s_NoQuotient_NoText : PySem.W.subIn K (.ref C4) (.ref C12) = some false) (s_NoLayer_NoText : PySem.W.subIn K (.ref C3) (.ref C12) = some false) (s_NoFolder_NoText : PySem.W.subIn K (.ref C2) (.ref C12) = some false) (s_Wrong_NoText : PySem.W.subIn K (.ref C1) (.ref C12) = some false) (s_NoText_ValueError : PySem.W.subIn K (.ref C12) (.type "ValueError") = some true) (s_Stopped_ValueError : PySem.W.subIn K (.ref C11) (.type "ValueError") = some true) (s_Nothing_ValueError : PySem.W.subIn K (.ref C10) (.type "ValueError") = some true) (s_NoDeed_ValueError : PySem.W.subIn K (.ref C9) (.type "ValueError") = some true) (s_Unlike_ValueError : PySem.W.subIn K (.ref C8) (.type "ValueError") = some true) (s_TooMany_ValueError : PySem.W.subIn K (.ref C7) (.type "ValueError") = some true) (s_NoStep_ValueError : PySem.W.subIn K (.ref C6) (.type "ValueError") = some true) (s_NoStage_ValueError : PySem.W.subIn K (.ref C5) (.type "ValueError") = some true) (s_NoQuotient_ValueError : PySem.W.subIn K (.ref C4) (.type "ValueError") = some true) (s_NoLayer_ValueError : PySem.W.subIn K (.ref C3) (.type "ValueError") = some true) (s_NoFolder_ValueError : PySem.W.subIn K (.ref C2) (.type "ValueError") = some true) (s_Wrong_ValueError : PySem.W.subIn K (.ref C1) (.type "ValueError") = some true) : ∃ Γ, Txt K mg Γ :=
  ⟨fun n => [C0, C1, C2, C3, C4, C5, C6, C7, C8, C9, C10, C11, C12].getD n 0, ⟨d__law_bag,
    d__law_field,
    d__law_kinds,
    d__law_made,
    d__law_take,
    d__law_odd,
    d_law,
    n_ValueError,
    n_abs,
    n_isinstance,
    n_len,
    n_range,
    n_repr,
    d_Wrong_init,
    d_NoFolder_init,
    d_NoLayer_init,
    d_NoStage_init,
    d_NoStep_init,
    d_TooMany_init,
    d_Stopped_init,
    PySem.W.mg_of X G g_LayerError,
    PySem.W.mg_of X G g_Wrong,
    PySem.W.mg_of X G g_NoFolder,
    PySem.W.mg_of X G g_NoLayer,
    PySem.W.mg_of X G g_NoQuotient,
    PySem.W.mg_of X G g_NoStage,
    PySem.W.mg_of X G g_NoStep,
    PySem.W.mg_of X G g_TooMany,
    PySem.W.mg_of X G g_Unlike,
    PySem.W.mg_of X G g_NoDeed,
    PySem.W.mg_of X G g_Nothing,
    PySem.W.mg_of X G g_Stopped,
    PySem.W.mg_of X G g_NoText,
    x_LayerError,
    x_Wrong,
    x_NoFolder,
    x_NoLayer,
    x_NoQuotient,
    x_NoStage,
    x_NoStep,
    x_TooMany,
    x_Unlike,
    x_NoDeed,
    x_Nothing,
    x_Stopped,
    x_NoText,
    f_NoFolder_path,
    f_NoLayer_at,
    f_NoStage_name,
    f_NoStep_at,
    f_Stopped_at,
    f_TooMany_limit,
    f_Wrong_place,
    e_NoQuotient,
    e_Unlike,
    e_NoDeed,
    e_Nothing,
    e_NoText,
    ⟨r1_LayerError, r2_LayerError⟩,
    a_LayerError,
    anL_skip (anL_cons ⟨x_Wrong, kitOne_refT x_LayerError s_Wrong_LayerError⟩ (anL_cons ⟨x_NoFolder, kitOne_refT x_LayerError s_NoFolder_LayerError⟩ (anL_cons ⟨x_NoLayer, kitOne_refT x_LayerError s_NoLayer_LayerError⟩ (anL_cons ⟨x_NoQuotient, kitOne_refT x_LayerError s_NoQuotient_LayerError⟩ (anL_cons ⟨x_NoStage, kitOne_refT x_LayerError s_NoStage_LayerError⟩ (anL_cons ⟨x_NoStep, kitOne_refT x_LayerError s_NoStep_LayerError⟩ (anL_cons ⟨x_TooMany, kitOne_refT x_LayerError s_TooMany_LayerError⟩ (anL_cons ⟨x_Unlike, kitOne_refT x_LayerError s_Unlike_LayerError⟩ (anL_cons ⟨x_NoDeed, kitOne_refT x_LayerError s_NoDeed_LayerError⟩ (anL_cons ⟨x_Nothing, kitOne_refT x_LayerError s_Nothing_LayerError⟩ (anL_cons ⟨x_Stopped, kitOne_refT x_LayerError s_Stopped_LayerError⟩ (anL_cons ⟨x_NoText, kitOne_refT x_LayerError s_NoText_LayerError⟩ (anL_nil))))))))))))),
    anL_skip (anL_cons ⟨x_Wrong, kitOne_refT x_Wrong s_Wrong_Wrong⟩ (anL_cons ⟨x_NoFolder, kitOne_refF x_Wrong s_NoFolder_Wrong s_Wrong_Wrong⟩ (anL_cons ⟨x_NoLayer, kitOne_refF x_Wrong s_NoLayer_Wrong s_Wrong_Wrong⟩ (anL_cons ⟨x_NoQuotient, kitOne_refF x_Wrong s_NoQuotient_Wrong s_Wrong_Wrong⟩ (anL_cons ⟨x_NoStage, kitOne_refF x_Wrong s_NoStage_Wrong s_Wrong_Wrong⟩ (anL_cons ⟨x_NoStep, kitOne_refF x_Wrong s_NoStep_Wrong s_Wrong_Wrong⟩ (anL_cons ⟨x_TooMany, kitOne_refF x_Wrong s_TooMany_Wrong s_Wrong_Wrong⟩ (anL_cons ⟨x_Unlike, kitOne_refF x_Wrong s_Unlike_Wrong s_Wrong_Wrong⟩ (anL_cons ⟨x_NoDeed, kitOne_refF x_Wrong s_NoDeed_Wrong s_Wrong_Wrong⟩ (anL_cons ⟨x_Nothing, kitOne_refF x_Wrong s_Nothing_Wrong s_Wrong_Wrong⟩ (anL_cons ⟨x_Stopped, kitOne_refF x_Wrong s_Stopped_Wrong s_Wrong_Wrong⟩ (anL_cons ⟨x_NoText, kitOne_refF x_Wrong s_NoText_Wrong s_Wrong_Wrong⟩ (anL_nil))))))))))))),
    anL_skip (anL_cons ⟨x_Wrong, kitOne_refF x_NoFolder s_Wrong_NoFolder s_NoFolder_NoFolder⟩ (anL_cons ⟨x_NoFolder, kitOne_refT x_NoFolder s_NoFolder_NoFolder⟩ (anL_cons ⟨x_NoLayer, kitOne_refF x_NoFolder s_NoLayer_NoFolder s_NoFolder_NoFolder⟩ (anL_cons ⟨x_NoQuotient, kitOne_refF x_NoFolder s_NoQuotient_NoFolder s_NoFolder_NoFolder⟩ (anL_cons ⟨x_NoStage, kitOne_refF x_NoFolder s_NoStage_NoFolder s_NoFolder_NoFolder⟩ (anL_cons ⟨x_NoStep, kitOne_refF x_NoFolder s_NoStep_NoFolder s_NoFolder_NoFolder⟩ (anL_cons ⟨x_TooMany, kitOne_refF x_NoFolder s_TooMany_NoFolder s_NoFolder_NoFolder⟩ (anL_cons ⟨x_Unlike, kitOne_refF x_NoFolder s_Unlike_NoFolder s_NoFolder_NoFolder⟩ (anL_cons ⟨x_NoDeed, kitOne_refF x_NoFolder s_NoDeed_NoFolder s_NoFolder_NoFolder⟩ (anL_cons ⟨x_Nothing, kitOne_refF x_NoFolder s_Nothing_NoFolder s_NoFolder_NoFolder⟩ (anL_cons ⟨x_Stopped, kitOne_refF x_NoFolder s_Stopped_NoFolder s_NoFolder_NoFolder⟩ (anL_cons ⟨x_NoText, kitOne_refF x_NoFolder s_NoText_NoFolder s_NoFolder_NoFolder⟩ (anL_nil))))))))))))),
    anL_skip (anL_cons ⟨x_Wrong, kitOne_refF x_NoLayer s_Wrong_NoLayer s_NoLayer_NoLayer⟩ (anL_cons ⟨x_NoFolder, kitOne_refF x_NoLayer s_NoFolder_NoLayer s_NoLayer_NoLayer⟩ (anL_cons ⟨x_NoLayer, kitOne_refT x_NoLayer s_NoLayer_NoLayer⟩ (anL_cons ⟨x_NoQuotient, kitOne_refF x_NoLayer s_NoQuotient_NoLayer s_NoLayer_NoLayer⟩ (anL_cons ⟨x_NoStage, kitOne_refF x_NoLayer s_NoStage_NoLayer s_NoLayer_NoLayer⟩ (anL_cons ⟨x_NoStep, kitOne_refF x_NoLayer s_NoStep_NoLayer s_NoLayer_NoLayer⟩ (anL_cons ⟨x_TooMany, kitOne_refF x_NoLayer s_TooMany_NoLayer s_NoLayer_NoLayer⟩ (anL_cons ⟨x_Unlike, kitOne_refF x_NoLayer s_Unlike_NoLayer s_NoLayer_NoLayer⟩ (anL_cons ⟨x_NoDeed, kitOne_refF x_NoLayer s_NoDeed_NoLayer s_NoLayer_NoLayer⟩ (anL_cons ⟨x_Nothing, kitOne_refF x_NoLayer s_Nothing_NoLayer s_NoLayer_NoLayer⟩ (anL_cons ⟨x_Stopped, kitOne_refF x_NoLayer s_Stopped_NoLayer s_NoLayer_NoLayer⟩ (anL_cons ⟨x_NoText, kitOne_refF x_NoLayer s_NoText_NoLayer s_NoLayer_NoLayer⟩ (anL_nil))))))))))))),
    anL_skip (anL_cons ⟨x_Wrong, kitOne_refF x_NoQuotient s_Wrong_NoQuotient s_NoQuotient_NoQuotient⟩ (anL_cons ⟨x_NoFolder, kitOne_refF x_NoQuotient s_NoFolder_NoQuotient s_NoQuotient_NoQuotient⟩ (anL_cons ⟨x_NoLayer, kitOne_refF x_NoQuotient s_NoLayer_NoQuotient s_NoQuotient_NoQuotient⟩ (anL_cons ⟨x_NoQuotient, kitOne_refT x_NoQuotient s_NoQuotient_NoQuotient⟩ (anL_cons ⟨x_NoStage, kitOne_refF x_NoQuotient s_NoStage_NoQuotient s_NoQuotient_NoQuotient⟩ (anL_cons ⟨x_NoStep, kitOne_refF x_NoQuotient s_NoStep_NoQuotient s_NoQuotient_NoQuotient⟩ (anL_cons ⟨x_TooMany, kitOne_refF x_NoQuotient s_TooMany_NoQuotient s_NoQuotient_NoQuotient⟩ (anL_cons ⟨x_Unlike, kitOne_refF x_NoQuotient s_Unlike_NoQuotient s_NoQuotient_NoQuotient⟩ (anL_cons ⟨x_NoDeed, kitOne_refF x_NoQuotient s_NoDeed_NoQuotient s_NoQuotient_NoQuotient⟩ (anL_cons ⟨x_Nothing, kitOne_refF x_NoQuotient s_Nothing_NoQuotient s_NoQuotient_NoQuotient⟩ (anL_cons ⟨x_Stopped, kitOne_refF x_NoQuotient s_Stopped_NoQuotient s_NoQuotient_NoQuotient⟩ (anL_cons ⟨x_NoText, kitOne_refF x_NoQuotient s_NoText_NoQuotient s_NoQuotient_NoQuotient⟩ (anL_nil))))))))))))),
    anL_skip (anL_cons ⟨x_Wrong, kitOne_refF x_NoStage s_Wrong_NoStage s_NoStage_NoStage⟩ (anL_cons ⟨x_NoFolder, kitOne_refF x_NoStage s_NoFolder_NoStage s_NoStage_NoStage⟩ (anL_cons ⟨x_NoLayer, kitOne_refF x_NoStage s_NoLayer_NoStage s_NoStage_NoStage⟩ (anL_cons ⟨x_NoQuotient, kitOne_refF x_NoStage s_NoQuotient_NoStage s_NoStage_NoStage⟩ (anL_cons ⟨x_NoStage, kitOne_refT x_NoStage s_NoStage_NoStage⟩ (anL_cons ⟨x_NoStep, kitOne_refF x_NoStage s_NoStep_NoStage s_NoStage_NoStage⟩ (anL_cons ⟨x_TooMany, kitOne_refF x_NoStage s_TooMany_NoStage s_NoStage_NoStage⟩ (anL_cons ⟨x_Unlike, kitOne_refF x_NoStage s_Unlike_NoStage s_NoStage_NoStage⟩ (anL_cons ⟨x_NoDeed, kitOne_refF x_NoStage s_NoDeed_NoStage s_NoStage_NoStage⟩ (anL_cons ⟨x_Nothing, kitOne_refF x_NoStage s_Nothing_NoStage s_NoStage_NoStage⟩ (anL_cons ⟨x_Stopped, kitOne_refF x_NoStage s_Stopped_NoStage s_NoStage_NoStage⟩ (anL_cons ⟨x_NoText, kitOne_refF x_NoStage s_NoText_NoStage s_NoStage_NoStage⟩ (anL_nil))))))))))))),
    anL_skip (anL_cons ⟨x_Wrong, kitOne_refF x_NoStep s_Wrong_NoStep s_NoStep_NoStep⟩ (anL_cons ⟨x_NoFolder, kitOne_refF x_NoStep s_NoFolder_NoStep s_NoStep_NoStep⟩ (anL_cons ⟨x_NoLayer, kitOne_refF x_NoStep s_NoLayer_NoStep s_NoStep_NoStep⟩ (anL_cons ⟨x_NoQuotient, kitOne_refF x_NoStep s_NoQuotient_NoStep s_NoStep_NoStep⟩ (anL_cons ⟨x_NoStage, kitOne_refF x_NoStep s_NoStage_NoStep s_NoStep_NoStep⟩ (anL_cons ⟨x_NoStep, kitOne_refT x_NoStep s_NoStep_NoStep⟩ (anL_cons ⟨x_TooMany, kitOne_refF x_NoStep s_TooMany_NoStep s_NoStep_NoStep⟩ (anL_cons ⟨x_Unlike, kitOne_refF x_NoStep s_Unlike_NoStep s_NoStep_NoStep⟩ (anL_cons ⟨x_NoDeed, kitOne_refF x_NoStep s_NoDeed_NoStep s_NoStep_NoStep⟩ (anL_cons ⟨x_Nothing, kitOne_refF x_NoStep s_Nothing_NoStep s_NoStep_NoStep⟩ (anL_cons ⟨x_Stopped, kitOne_refF x_NoStep s_Stopped_NoStep s_NoStep_NoStep⟩ (anL_cons ⟨x_NoText, kitOne_refF x_NoStep s_NoText_NoStep s_NoStep_NoStep⟩ (anL_nil))))))))))))),
    anL_skip (anL_cons ⟨x_Wrong, kitOne_refF x_TooMany s_Wrong_TooMany s_TooMany_TooMany⟩ (anL_cons ⟨x_NoFolder, kitOne_refF x_TooMany s_NoFolder_TooMany s_TooMany_TooMany⟩ (anL_cons ⟨x_NoLayer, kitOne_refF x_TooMany s_NoLayer_TooMany s_TooMany_TooMany⟩ (anL_cons ⟨x_NoQuotient, kitOne_refF x_TooMany s_NoQuotient_TooMany s_TooMany_TooMany⟩ (anL_cons ⟨x_NoStage, kitOne_refF x_TooMany s_NoStage_TooMany s_TooMany_TooMany⟩ (anL_cons ⟨x_NoStep, kitOne_refF x_TooMany s_NoStep_TooMany s_TooMany_TooMany⟩ (anL_cons ⟨x_TooMany, kitOne_refT x_TooMany s_TooMany_TooMany⟩ (anL_cons ⟨x_Unlike, kitOne_refF x_TooMany s_Unlike_TooMany s_TooMany_TooMany⟩ (anL_cons ⟨x_NoDeed, kitOne_refF x_TooMany s_NoDeed_TooMany s_TooMany_TooMany⟩ (anL_cons ⟨x_Nothing, kitOne_refF x_TooMany s_Nothing_TooMany s_TooMany_TooMany⟩ (anL_cons ⟨x_Stopped, kitOne_refF x_TooMany s_Stopped_TooMany s_TooMany_TooMany⟩ (anL_cons ⟨x_NoText, kitOne_refF x_TooMany s_NoText_TooMany s_TooMany_TooMany⟩ (anL_nil))))))))))))),
    anL_skip (anL_cons ⟨x_Wrong, kitOne_refF x_Unlike s_Wrong_Unlike s_Unlike_Unlike⟩ (anL_cons ⟨x_NoFolder, kitOne_refF x_Unlike s_NoFolder_Unlike s_Unlike_Unlike⟩ (anL_cons ⟨x_NoLayer, kitOne_refF x_Unlike s_NoLayer_Unlike s_Unlike_Unlike⟩ (anL_cons ⟨x_NoQuotient, kitOne_refF x_Unlike s_NoQuotient_Unlike s_Unlike_Unlike⟩ (anL_cons ⟨x_NoStage, kitOne_refF x_Unlike s_NoStage_Unlike s_Unlike_Unlike⟩ (anL_cons ⟨x_NoStep, kitOne_refF x_Unlike s_NoStep_Unlike s_Unlike_Unlike⟩ (anL_cons ⟨x_TooMany, kitOne_refF x_Unlike s_TooMany_Unlike s_Unlike_Unlike⟩ (anL_cons ⟨x_Unlike, kitOne_refT x_Unlike s_Unlike_Unlike⟩ (anL_cons ⟨x_NoDeed, kitOne_refF x_Unlike s_NoDeed_Unlike s_Unlike_Unlike⟩ (anL_cons ⟨x_Nothing, kitOne_refF x_Unlike s_Nothing_Unlike s_Unlike_Unlike⟩ (anL_cons ⟨x_Stopped, kitOne_refF x_Unlike s_Stopped_Unlike s_Unlike_Unlike⟩ (anL_cons ⟨x_NoText, kitOne_refF x_Unlike s_NoText_Unlike s_Unlike_Unlike⟩ (anL_nil))))))))))))),
    anL_skip (anL_cons ⟨x_Wrong, kitOne_refF x_NoDeed s_Wrong_NoDeed s_NoDeed_NoDeed⟩ (anL_cons ⟨x_NoFolder, kitOne_refF x_NoDeed s_NoFolder_NoDeed s_NoDeed_NoDeed⟩ (anL_cons ⟨x_NoLayer, kitOne_refF x_NoDeed s_NoLayer_NoDeed s_NoDeed_NoDeed⟩ (anL_cons ⟨x_NoQuotient, kitOne_refF x_NoDeed s_NoQuotient_NoDeed s_NoDeed_NoDeed⟩ (anL_cons ⟨x_NoStage, kitOne_refF x_NoDeed s_NoStage_NoDeed s_NoDeed_NoDeed⟩ (anL_cons ⟨x_NoStep, kitOne_refF x_NoDeed s_NoStep_NoDeed s_NoDeed_NoDeed⟩ (anL_cons ⟨x_TooMany, kitOne_refF x_NoDeed s_TooMany_NoDeed s_NoDeed_NoDeed⟩ (anL_cons ⟨x_Unlike, kitOne_refF x_NoDeed s_Unlike_NoDeed s_NoDeed_NoDeed⟩ (anL_cons ⟨x_NoDeed, kitOne_refT x_NoDeed s_NoDeed_NoDeed⟩ (anL_cons ⟨x_Nothing, kitOne_refF x_NoDeed s_Nothing_NoDeed s_NoDeed_NoDeed⟩ (anL_cons ⟨x_Stopped, kitOne_refF x_NoDeed s_Stopped_NoDeed s_NoDeed_NoDeed⟩ (anL_cons ⟨x_NoText, kitOne_refF x_NoDeed s_NoText_NoDeed s_NoDeed_NoDeed⟩ (anL_nil))))))))))))),
    anL_skip (anL_cons ⟨x_Wrong, kitOne_refF x_Nothing s_Wrong_Nothing s_Nothing_Nothing⟩ (anL_cons ⟨x_NoFolder, kitOne_refF x_Nothing s_NoFolder_Nothing s_Nothing_Nothing⟩ (anL_cons ⟨x_NoLayer, kitOne_refF x_Nothing s_NoLayer_Nothing s_Nothing_Nothing⟩ (anL_cons ⟨x_NoQuotient, kitOne_refF x_Nothing s_NoQuotient_Nothing s_Nothing_Nothing⟩ (anL_cons ⟨x_NoStage, kitOne_refF x_Nothing s_NoStage_Nothing s_Nothing_Nothing⟩ (anL_cons ⟨x_NoStep, kitOne_refF x_Nothing s_NoStep_Nothing s_Nothing_Nothing⟩ (anL_cons ⟨x_TooMany, kitOne_refF x_Nothing s_TooMany_Nothing s_Nothing_Nothing⟩ (anL_cons ⟨x_Unlike, kitOne_refF x_Nothing s_Unlike_Nothing s_Nothing_Nothing⟩ (anL_cons ⟨x_NoDeed, kitOne_refF x_Nothing s_NoDeed_Nothing s_Nothing_Nothing⟩ (anL_cons ⟨x_Nothing, kitOne_refT x_Nothing s_Nothing_Nothing⟩ (anL_cons ⟨x_Stopped, kitOne_refF x_Nothing s_Stopped_Nothing s_Nothing_Nothing⟩ (anL_cons ⟨x_NoText, kitOne_refF x_Nothing s_NoText_Nothing s_Nothing_Nothing⟩ (anL_nil))))))))))))),
    anL_skip (anL_cons ⟨x_Wrong, kitOne_refF x_Stopped s_Wrong_Stopped s_Stopped_Stopped⟩ (anL_cons ⟨x_NoFolder, kitOne_refF x_Stopped s_NoFolder_Stopped s_Stopped_Stopped⟩ (anL_cons ⟨x_NoLayer, kitOne_refF x_Stopped s_NoLayer_Stopped s_Stopped_Stopped⟩ (anL_cons ⟨x_NoQuotient, kitOne_refF x_Stopped s_NoQuotient_Stopped s_Stopped_Stopped⟩ (anL_cons ⟨x_NoStage, kitOne_refF x_Stopped s_NoStage_Stopped s_Stopped_Stopped⟩ (anL_cons ⟨x_NoStep, kitOne_refF x_Stopped s_NoStep_Stopped s_Stopped_Stopped⟩ (anL_cons ⟨x_TooMany, kitOne_refF x_Stopped s_TooMany_Stopped s_Stopped_Stopped⟩ (anL_cons ⟨x_Unlike, kitOne_refF x_Stopped s_Unlike_Stopped s_Stopped_Stopped⟩ (anL_cons ⟨x_NoDeed, kitOne_refF x_Stopped s_NoDeed_Stopped s_Stopped_Stopped⟩ (anL_cons ⟨x_Nothing, kitOne_refF x_Stopped s_Nothing_Stopped s_Stopped_Stopped⟩ (anL_cons ⟨x_Stopped, kitOne_refT x_Stopped s_Stopped_Stopped⟩ (anL_cons ⟨x_NoText, kitOne_refF x_Stopped s_NoText_Stopped s_Stopped_Stopped⟩ (anL_nil))))))))))))),
    anL_skip (anL_cons ⟨x_Wrong, kitOne_refF x_NoText s_Wrong_NoText s_NoText_NoText⟩ (anL_cons ⟨x_NoFolder, kitOne_refF x_NoText s_NoFolder_NoText s_NoText_NoText⟩ (anL_cons ⟨x_NoLayer, kitOne_refF x_NoText s_NoLayer_NoText s_NoText_NoText⟩ (anL_cons ⟨x_NoQuotient, kitOne_refF x_NoText s_NoQuotient_NoText s_NoText_NoText⟩ (anL_cons ⟨x_NoStage, kitOne_refF x_NoText s_NoStage_NoText s_NoText_NoText⟩ (anL_cons ⟨x_NoStep, kitOne_refF x_NoText s_NoStep_NoText s_NoText_NoText⟩ (anL_cons ⟨x_TooMany, kitOne_refF x_NoText s_TooMany_NoText s_NoText_NoText⟩ (anL_cons ⟨x_Unlike, kitOne_refF x_NoText s_Unlike_NoText s_NoText_NoText⟩ (anL_cons ⟨x_NoDeed, kitOne_refF x_NoText s_NoDeed_NoText s_NoText_NoText⟩ (anL_cons ⟨x_Nothing, kitOne_refF x_NoText s_Nothing_NoText s_NoText_NoText⟩ (anL_cons ⟨x_Stopped, kitOne_refF x_NoText s_Stopped_NoText s_NoText_NoText⟩ (anL_cons ⟨x_NoText, kitOne_refT x_NoText s_NoText_NoText⟩ (anL_nil))))))))))))),
    anL_skip (anL_cons ⟨x_Wrong, kitOne_ty (by decide +kernel) s_Wrong_ValueError⟩ (anL_cons ⟨x_NoFolder, kitOne_ty (by decide +kernel) s_NoFolder_ValueError⟩ (anL_cons ⟨x_NoLayer, kitOne_ty (by decide +kernel) s_NoLayer_ValueError⟩ (anL_cons ⟨x_NoQuotient, kitOne_ty (by decide +kernel) s_NoQuotient_ValueError⟩ (anL_cons ⟨x_NoStage, kitOne_ty (by decide +kernel) s_NoStage_ValueError⟩ (anL_cons ⟨x_NoStep, kitOne_ty (by decide +kernel) s_NoStep_ValueError⟩ (anL_cons ⟨x_TooMany, kitOne_ty (by decide +kernel) s_TooMany_ValueError⟩ (anL_cons ⟨x_Unlike, kitOne_ty (by decide +kernel) s_Unlike_ValueError⟩ (anL_cons ⟨x_NoDeed, kitOne_ty (by decide +kernel) s_NoDeed_ValueError⟩ (anL_cons ⟨x_Nothing, kitOne_ty (by decide +kernel) s_Nothing_ValueError⟩ (anL_cons ⟨x_Stopped, kitOne_ty (by decide +kernel) s_Stopped_ValueError⟩ (anL_cons ⟨x_NoText, kitOne_ty (by decide +kernel) s_NoText_ValueError⟩ (anL_nil)))))))))))))⟩⟩
theorem okx_Wrong (T : Txt K mg Γ) (Z : SysIn base) : CalleeX P w K mg base Γ 1 1 2 m_Wrong_init := by
  refine calleeX_mk T.d_Wrong_init sc_Wrong_init fun f cdv A fr s H E hq hr => ?_
  show RSs _ _ _ _ b_Wrong_init
  exact ((rss_cons (rs_expr (re_xinit (mem_one T.x_Wrong.oex) rfl T.g_LayerError T.r_LayerError T.a_LayerError (re_var 0)))
    (rss_one (rs_xset (mem_one ⟨T.x_Wrong.oex, T.f_Wrong_place⟩) (re_var 0) (re_var 1)))))
theorem okx_NoFolder (T : Txt K mg Γ) (Z : SysIn base) : CalleeX P w K mg base Γ 1 2 2 m_NoFolder_init := by
  refine calleeX_mk T.d_NoFolder_init sc_NoFolder_init fun f cdv A fr s H E hq hr => ?_
  show RSs _ _ _ _ b_NoFolder_init
  exact ((rss_cons (rs_expr (re_xinit (mem_one T.x_NoFolder.oex) rfl T.g_LayerError T.r_LayerError T.a_LayerError (re_var 0)))
    (rss_one (rs_xset (mem_one ⟨T.x_NoFolder.oex, T.f_NoFolder_path⟩) (re_var 0) (re_var 1)))))
theorem okx_NoLayer (T : Txt K mg Γ) (Z : SysIn base) : CalleeX P w K mg base Γ 1 3 2 m_NoLayer_init := by
  refine calleeX_mk T.d_NoLayer_init sc_NoLayer_init fun f cdv A fr s H E hq hr => ?_
  show RSs _ _ _ _ b_NoLayer_init
  exact ((rss_cons (rs_expr (re_xinit (mem_one T.x_NoLayer.oex) rfl T.g_LayerError T.r_LayerError T.a_LayerError (re_var 0)))
    (rss_one (rs_xset (mem_one ⟨T.x_NoLayer.oex, T.f_NoLayer_at⟩) (re_var 0) (re_var 1)))))
theorem okx_NoStage (T : Txt K mg Γ) (Z : SysIn base) : CalleeX P w K mg base Γ 1 5 2 m_NoStage_init := by
  refine calleeX_mk T.d_NoStage_init sc_NoStage_init fun f cdv A fr s H E hq hr => ?_
  show RSs _ _ _ _ b_NoStage_init
  exact ((rss_cons (rs_expr (re_xinit (mem_one T.x_NoStage.oex) rfl T.g_LayerError T.r_LayerError T.a_LayerError (re_var 0)))
    (rss_one (rs_xset (mem_one ⟨T.x_NoStage.oex, T.f_NoStage_name⟩) (re_var 0) (re_var 1)))))
theorem okx_NoStep (T : Txt K mg Γ) (Z : SysIn base) : CalleeX P w K mg base Γ 1 6 2 m_NoStep_init := by
  refine calleeX_mk T.d_NoStep_init sc_NoStep_init fun f cdv A fr s H E hq hr => ?_
  show RSs _ _ _ _ b_NoStep_init
  exact ((rss_cons (rs_expr (re_xinit (mem_one T.x_NoStep.oex) rfl T.g_LayerError T.r_LayerError T.a_LayerError (re_var 0)))
    (rss_one (rs_xset (mem_one ⟨T.x_NoStep.oex, T.f_NoStep_at⟩) (re_var 0) (re_var 1)))))
theorem okx_TooMany (T : Txt K mg Γ) (Z : SysIn base) : CalleeX P w K mg base Γ 1 7 2 m_TooMany_init := by
  refine calleeX_mk T.d_TooMany_init sc_TooMany_init fun f cdv A fr s H E hq hr => ?_
  show RSs _ _ _ _ b_TooMany_init
  exact ((rss_cons (rs_expr (re_xinit (mem_one T.x_TooMany.oex) rfl T.g_LayerError T.r_LayerError T.a_LayerError (re_var 0)))
    (rss_one (rs_xset (mem_one ⟨T.x_TooMany.oex, T.f_TooMany_limit⟩) (re_var 0) (re_var 1)))))
theorem okx_Stopped (T : Txt K mg Γ) (Z : SysIn base) : CalleeX P w K mg base Γ 1 11 2 m_Stopped_init := by
  refine calleeX_mk T.d_Stopped_init sc_Stopped_init fun f cdv A fr s H E hq hr => ?_
  show RSs _ _ _ _ b_Stopped_init
  exact ((rss_cons (rs_expr (re_xinit (mem_one T.x_Stopped.oex) rfl T.g_LayerError T.r_LayerError T.a_LayerError (re_var 0)))
    (rss_one (rs_xset (mem_one ⟨T.x_Stopped.oex, T.f_Stopped_at⟩) (re_var 0) (re_var 1)))))
theorem ok__law_bag (T : Txt K mg Γ) (Z : SysIn base) : Callee P w K mg base Γ 1 "_law_bag" 1 m__law_bag := by
  refine callee_mk T.d__law_bag sc__law_bag fun f cdv A fr s H E hq hr => ?_
  show RSs _ _ _ _ b__law_bag
  exact ((rss_one (rs_ret (re_lst (ra_cons re_int (ra_cons re_int (ra_cons re_int (ra_cons (re_lc (own := [("_law_cell", 1)]) rfl sc__law_bag.nd (ri_any (re_slice (re_var 0) ro_none (ro_some re_int))) (blkOk_by (N := ["_law_script", "_law_cell"]) (sc := defScope s__law_bag) (by decide +kernel)) (fun _ _ _ _ _ => (cg_name (i := 1) sc__law_bag.nd rfl (by first | exact Or.inl rfl | exact Or.inr rfl))) (fun _ _ _ _ _ => rts_nil) (fun _ _ _ _ _ => (re_callB cd_abs rfl T.n_abs bt_abs (ra_cons (re_var 1) ra_nil)))) ra_nil))))))))
theorem ok__law_field (T : Txt K mg Γ) (Z : SysIn base) : Callee P w K mg base Γ 1 "_law_field" 2 m__law_field := by
  refine callee_mk T.d__law_field sc__law_field fun f cdv A fr s H E hq hr => ?_
  show RSs _ _ _ _ b__law_field
  exact ((rss_cons (rs_if (rt_cmp (od_eq (room_eq hr)) (re_var 0) re_int) (rss_one (rs_ret (re_xfld (mem_cons' ⟨T.x_Wrong.xf, T.f_Wrong_place⟩ (fun c h => (by cases h))) (re_var 1)))) rss_nil)
    (rss_cons (rs_if (rt_cmp (od_eq (room_eq hr)) (re_var 0) re_int) (rss_one (rs_ret (re_xfld (mem_cons' ⟨T.x_NoFolder.xf, T.f_NoFolder_path⟩ (fun c h => (by cases h))) (re_var 1)))) rss_nil)
    (rss_cons (rs_if (rt_cmp (od_in (room_in hr)) (re_var 0) (re_tup (ra_cons re_int (ra_cons re_int (ra_cons re_int ra_nil))))) (rss_one (rs_ret (re_xfld (mem_cons' ⟨T.x_NoLayer.xf, T.f_NoLayer_at⟩ (mem_cons' ⟨T.x_NoStep.xf, T.f_NoStep_at⟩ (mem_cons' ⟨T.x_Stopped.xf, T.f_Stopped_at⟩ (fun c h => (by cases h))))) (re_var 1)))) rss_nil)
    (rss_one (rs_ret (re_if (rt_cmp (od_eq (room_eq hr)) (re_var 0) re_int) (re_xfld (mem_cons' ⟨T.x_NoStage.xf, T.f_NoStage_name⟩ (fun c h => (by cases h))) (re_var 1)) (re_xfld (mem_cons' ⟨T.x_TooMany.xf, T.f_TooMany_limit⟩ (fun c h => (by cases h))) (re_var 1)))))))))
theorem ok__law_kinds (T : Txt K mg Γ) (Z : SysIn base) : Callee P w K mg base Γ 1 "_law_kinds" 1 m__law_kinds := by
  refine callee_mk T.d__law_kinds sc__law_kinds fun f cdv A fr s H E hq hr => ?_
  show RSs _ _ _ _ b__law_kinds
  exact ((rss_cons (rs_set (i := 1) sc__law_kinds.nd rfl (by first | exact Or.inl rfl | exact Or.inr rfl) (re_lst (ra_cons (re_isx T.i_Wrong (re_var 0) rfl T.n_isinstance rfl T.g_Wrong) (ra_cons (re_isx T.i_NoFolder (re_var 0) rfl T.n_isinstance rfl T.g_NoFolder) (ra_cons (re_isx T.i_NoLayer (re_var 0) rfl T.n_isinstance rfl T.g_NoLayer) (ra_cons (re_isx T.i_NoStage (re_var 0) rfl T.n_isinstance rfl T.g_NoStage) ra_nil))))))
    (rss_cons (rs_set (i := 1) sc__law_kinds.nd rfl (by first | exact Or.inl rfl | exact Or.inr rfl) (re_bin od_add (re_var 1) (re_lst (ra_cons (re_isx T.i_NoStep (re_var 0) rfl T.n_isinstance rfl T.g_NoStep) (ra_cons (re_isx T.i_TooMany (re_var 0) rfl T.n_isinstance rfl T.g_TooMany) (ra_cons (re_isx T.i_Stopped (re_var 0) rfl T.n_isinstance rfl T.g_Stopped) (ra_cons (re_isx T.i_NoQuotient (re_var 0) rfl T.n_isinstance rfl T.g_NoQuotient) ra_nil)))))))
    (rss_cons (rs_set (i := 1) sc__law_kinds.nd rfl (by first | exact Or.inl rfl | exact Or.inr rfl) (re_bin od_add (re_var 1) (re_lst (ra_cons (re_isx T.i_Unlike (re_var 0) rfl T.n_isinstance rfl T.g_Unlike) (ra_cons (re_isx T.i_NoDeed (re_var 0) rfl T.n_isinstance rfl T.g_NoDeed) (ra_cons (re_isx T.i_Nothing (re_var 0) rfl T.n_isinstance rfl T.g_Nothing) (ra_cons (re_isx T.i_NoText (re_var 0) rfl T.n_isinstance rfl T.g_NoText) ra_nil)))))))
    (rss_one (rs_ret (re_var 1)))))))
theorem ok__law_made (T : Txt K mg Γ) (Z : SysIn base) : Callee P w K mg base Γ 3 "_law_made" 2 m__law_made := by
  have X_NoFolder := okx_NoFolder (P := P) (w := w) (base := base) (Γ := Γ) T Z
  have X_NoLayer := okx_NoLayer (P := P) (w := w) (base := base) (Γ := Γ) T Z
  have X_NoStage := okx_NoStage (P := P) (w := w) (base := base) (Γ := Γ) T Z
  have X_NoStep := okx_NoStep (P := P) (w := w) (base := base) (Γ := Γ) T Z
  have X_Stopped := okx_Stopped (P := P) (w := w) (base := base) (Γ := Γ) T Z
  have X_TooMany := okx_TooMany (P := P) (w := w) (base := base) (Γ := Γ) T Z
  have X_Wrong := okx_Wrong (P := P) (w := w) (base := base) (Γ := Γ) T Z
  refine callee_mk T.d__law_made sc__law_made fun f cdv A fr s H E hq hr => ?_
  show RSs _ _ _ _ b__law_made
  exact ((rss_cons (rs_if (rt_cmp od_lt (re_var 0) re_int) (rss_cons (rs_if (rt_cmp (od_eq (room_eq hr)) (re_var 0) re_int) (rss_one (rs_ret (re_makeC X_Wrong T.x_Wrong T.g_Wrong hq (hr.mono (by omega)) (ra_cons (re_var 1) ra_nil) (lenA_cons lenA_nil)))) rss_nil)
    (rss_cons (rs_if (rt_cmp (od_eq (room_eq hr)) (re_var 0) re_int) (rss_one (rs_ret (re_makeC X_NoFolder T.x_NoFolder T.g_NoFolder hq (hr.mono (by omega)) (ra_cons (re_var 1) ra_nil) (lenA_cons lenA_nil)))) rss_nil)
    (rss_one (rs_ret (re_if (rt_cmp (od_eq (room_eq hr)) (re_var 0) re_int) (re_makeC X_NoLayer T.x_NoLayer T.g_NoLayer hq (hr.mono (by omega)) (ra_cons (re_var 1) ra_nil) (lenA_cons lenA_nil)) (re_makeC X_NoStage T.x_NoStage T.g_NoStage hq (hr.mono (by omega)) (ra_cons (re_var 1) ra_nil) (lenA_cons lenA_nil))))))) rss_nil)
    (rss_cons (rs_if (rt_cmp od_lt (re_var 0) re_int) (rss_cons (rs_if (rt_cmp (od_eq (room_eq hr)) (re_var 0) re_int) (rss_one (rs_ret (re_makeC X_NoStep T.x_NoStep T.g_NoStep hq (hr.mono (by omega)) (ra_cons (re_var 1) ra_nil) (lenA_cons lenA_nil)))) rss_nil)
    (rss_one (rs_ret (re_if (rt_cmp (od_eq (room_eq hr)) (re_var 0) re_int) (re_makeC X_TooMany T.x_TooMany T.g_TooMany hq (hr.mono (by omega)) (ra_cons (re_var 1) ra_nil) (lenA_cons lenA_nil)) (re_makeC X_Stopped T.x_Stopped T.g_Stopped hq (hr.mono (by omega)) (ra_cons (re_var 1) ra_nil) (lenA_cons lenA_nil)))))) rss_nil)
    (rss_cons (rs_if (rt_cmp (od_eq (room_eq hr)) (re_var 0) re_int) (rss_one (rs_ret (re_makeC0 T.e_NoQuotient T.x_NoQuotient T.g_NoQuotient))) rss_nil)
    (rss_cons (rs_if (rt_cmp (od_eq (room_eq hr)) (re_var 0) re_int) (rss_one (rs_ret (re_makeC0 T.e_Unlike T.x_Unlike T.g_Unlike))) rss_nil)
    (rss_cons (rs_if (rt_cmp (od_eq (room_eq hr)) (re_var 0) re_int) (rss_one (rs_ret (re_makeC0 T.e_NoDeed T.x_NoDeed T.g_NoDeed))) rss_nil)
    (rss_one (rs_ret (re_if (rt_cmp (od_eq (room_eq hr)) (re_var 0) re_int) (re_makeC0 T.e_Nothing T.x_Nothing T.g_Nothing) (re_makeC0 T.e_NoText T.x_NoText T.g_NoText))))))))))
theorem ok__law_take (T : Txt K mg Γ) (Z : SysIn base) : Callee P w K mg base Γ 1 "_law_take" 2 m__law_take := by
  refine callee_mk T.d__law_take sc__law_take fun f cdv A fr s H E hq hr => ?_
  show RSs _ _ _ _ b__law_take
  exact ((rss_cons (rs_if (rt_cmp (od_eq (room_eq hr)) (re_ix xd_seq (re_var 0) re_int) re_int) (rss_cons (rs_set (i := 2) sc__law_take.nd rfl (by first | exact Or.inl rfl | exact Or.inr rfl) re_int)
    (rss_cons (rs_if (rt_cmp od_lt (re_ix xd_seq (re_var 0) re_int) (re_callB cd_len rfl T.n_len bt_len (ra_cons (re_ix xd_seq (re_var 0) re_int) ra_nil))) (rss_one (rs_set (i := 2) sc__law_take.nd rfl (by first | exact Or.inl rfl | exact Or.inr rfl) (re_ix xd_seq (re_ix xd_seq (re_var 0) re_int) (re_ix xd_seq (re_var 0) re_int)))) rss_nil)
    (rss_cons (rs_augS (re_var 0) re_int gd_list re_int ip_addI sd_list)
    (rss_cons (rs_if (rt_cmp od_ge (re_var 2) re_int) (rss_one (rs_asg (re_var 2) (rg_sub (re_var 0) re_int sd_list))) rss_nil)
    (rss_one (rs_asg (re_bin od_mod (re_bin od_add (re_bin od_add (re_bin od_mul (re_ix xd_seq (re_var 0) re_int) re_int) (re_bin od_mod (re_var 2) re_int)) (re_bin od_mul re_int (re_ix xd_seq (re_var 0) re_int))) re_int) (rg_sub (re_var 0) re_int sd_list))))))) rss_nil)
    (rss_cons (rs_if (rt_cmp od_gt (re_ix xd_seq (re_var 0) re_int) re_int) (rss_cons (rs_set (i := 3) sc__law_take.nd rfl (by first | exact Or.inl rfl | exact Or.inr rfl) (re_bin od_mod (re_ix xd_seq (re_var 0) re_int) (re_var 1)))
    (rss_cons (rs_asg (re_bin od_fdiv (re_ix xd_seq (re_var 0) re_int) (re_var 1)) (rg_sub (re_var 0) re_int sd_list))
    (rss_one (rs_ret (re_var 3))))) rss_nil)
    (rss_cons (rs_set (i := 4) sc__law_take.nd rfl (by first | exact Or.inl rfl | exact Or.inr rfl) (re_bin od_mod (re_bin od_mul (re_bin od_add (re_ix xd_seq (re_var 0) re_int) re_int) re_int) re_int))
    (rss_cons (rs_set (i := 5) sc__law_take.nd rfl (by first | exact Or.inl rfl | exact Or.inr rfl) (re_bin od_mod (re_bin od_mul (re_bin od_mod (re_bin od_mul (re_var 4) (re_var 4)) re_int) re_int) re_int))
    (rss_cons (rs_if (rt_cmp od_gt (re_var 1) re_int) (rss_one (rs_ret (re_bin od_mod (re_bin od_add (re_bin od_mul (re_var 5) re_int) (re_var 4)) (re_var 1)))) rss_nil)
    (rss_one (rs_ret (re_bin od_mod (re_bin od_fdiv (re_var 5) re_int) (re_var 1))))))))))
theorem ok__law_odd (T : Txt K mg Γ) (Z : SysIn base) : Callee P w K mg base Γ 2 "_law_odd" 1 m__law_odd := by
  have C__law_take := ok__law_take (P := P) (w := w) (base := base) (Γ := Γ) T Z
  refine callee_mk T.d__law_odd sc__law_odd fun f cdv A fr s H E hq hr => ?_
  show RSs _ _ _ _ b__law_odd
  exact ((rss_cons (rs_set (i := 1) sc__law_odd.nd rfl (by first | exact Or.inl rfl | exact Or.inr rfl) re_str)
    (rss_cons (rs_for PassesOwn.never rfl (ri_rng1 rfl T.n_range (ra_cons re_int ra_nil)) (rg_name (i := 2) sc__law_odd.nd rfl (by first | exact Or.inl rfl | exact Or.inr rfl)) (rss_one (rs_set (i := 1) sc__law_odd.nd rfl (by first | exact Or.inl rfl | exact Or.inr rfl) (re_lst (ra_cons (re_var 1) ra_nil)))))
    (rss_cons (rs_set (i := 3) sc__law_odd.nd rfl (by first | exact Or.inl rfl | exact Or.inr rfl) (re_lst (ra_cons re_non (ra_cons re_bl (ra_cons re_bl (ra_cons re_int (ra_cons re_int (ra_cons (re_un ud_neg re_int) (ra_cons re_int (ra_cons re_int (ra_cons (re_bin od_pow re_int re_int) (ra_cons re_str (ra_cons re_str (ra_cons re_str (ra_cons re_str (ra_cons re_str (ra_cons re_str (ra_cons (re_bin od_mul re_str re_int) ra_nil))))))))))))))))))
    (rss_cons (rs_set (i := 3) sc__law_odd.nd rfl (by first | exact Or.inl rfl | exact Or.inr rfl) (re_bin od_add (re_var 3) (re_lst (ra_cons (re_tup ra_nil) (ra_cons (re_lst ra_nil) (ra_cons re_dnew (ra_cons (re_tup (ra_cons re_str ra_nil)) (ra_cons (re_tup (ra_cons re_str (ra_cons re_str ra_nil))) (ra_cons (re_lst (ra_cons (re_tup (ra_cons re_str ra_nil)) ra_nil)) (ra_cons (re_disp (pps_cons re_str re_str pps_nil) (.cons .nil) rfl rfl (List.cons_ne_nil _ _) (Nat.le_of_ble_eq_true rfl)) (ra_cons (re_var 1) (ra_cons (re_bin od_mul (re_lst (ra_cons re_int ra_nil)) re_int) ra_nil))))))))))))
    (rss_cons (rs_set (i := 3) sc__law_odd.nd rfl (by first | exact Or.inl rfl | exact Or.inr rfl) (re_bin od_add (re_var 3) (re_lst (ra_cons (re_tup (ra_cons re_str (ra_cons re_str (ra_cons (re_tup ra_nil) ra_nil)))) (ra_cons (re_tup (ra_cons re_str (ra_cons re_str (ra_cons (re_tup (ra_cons re_str (ra_cons re_non ra_nil))) ra_nil)))) ra_nil)))))
    (rss_one (rs_ret (re_ix xd_seq (re_var 3) (re_callC C__law_take hq (hr.mono (by omega)) (ra_cons (re_var 0) (ra_cons re_int ra_nil)) (lenA_cons (lenA_cons lenA_nil))))))))))))
theorem ok_law {f : Addr} {fd : FuncData} (F : Fun K "law" "law" s_law f fd) (T : Txt K mg Γ) (Z : SysIn base) : FnG P w K mg base CX0 4 f fd ["_law_script"] (spM K Γ 1 m_law) := by
  have C__law_bag := ok__law_bag (P := P) (w := w) (base := base) (Γ := Γ) T Z
  have C__law_field := ok__law_field (P := P) (w := w) (base := base) (Γ := Γ) T Z
  have C__law_kinds := ok__law_kinds (P := P) (w := w) (base := base) (Γ := Γ) T Z
  have C__law_made := ok__law_made (P := P) (w := w) (base := base) (Γ := Γ) T Z
  have C__law_odd := ok__law_odd (P := P) (w := w) (base := base) (Γ := Γ) T Z
  have C__law_take := ok__law_take (P := P) (w := w) (base := base) (Γ := Γ) T Z
  refine fn_okG F sc_law fun cdv A fr s H E hq hr => ?_
  show RSs _ _ _ _ b_law
  exact ((rss_cons (rs_set (i := 1) sc_law.nd rfl (by first | exact Or.inl rfl | exact Or.inr rfl) (re_callC C__law_bag hq (hr.mono (by omega)) (ra_cons (re_var 0) ra_nil) (lenA_cons lenA_nil)))
    (rss_cons (rs_for PassesOwn.never rfl (ri_rng1 rfl T.n_range (ra_cons re_int ra_nil)) (rg_name (i := 2) sc_law.nd rfl (by first | exact Or.inl rfl | exact Or.inr rfl)) (rss_cons (rs_par (i := 3) (j := 4) rfl sc_law.nd rfl rfl (by decide) rfl rfl (ra_cons (re_lst (ra_cons (re_callC C__law_odd hq (hr.mono (by omega)) (ra_cons (re_var 1) ra_nil) (lenA_cons lenA_nil)) ra_nil)) (ra_cons (re_callC C__law_odd hq (hr.mono (by omega)) (ra_cons (re_var 1) ra_nil) (lenA_cons lenA_nil)) ra_nil)) (by rfl))
    (rss_cons (rs_if (L2.PW.pt (rw_and (rt_cmp od_lt (re_var 2) re_int) (rw_and1 (rt_cmp (od_ne (room_eq hr)) (re_callB (cd_repr Z hq (room_re hr)) rfl T.n_repr bt_repr (ra_cons (re_callC C__law_field hq (hr.mono (by omega)) (ra_cons (re_var 2) (ra_cons (re_callC C__law_made hq (hr.mono (by omega)) (ra_cons (re_var 2) (ra_cons (re_var 4) ra_nil)) (lenA_cons (lenA_cons lenA_nil))) ra_nil)) (lenA_cons (lenA_cons lenA_nil))) ra_nil)) (re_callB (cd_repr Z hq (room_re hr)) rfl T.n_repr bt_repr (ra_cons (re_var 4) ra_nil)))))) (rss_one (rs_ret re_bl)) rss_nil)
    (rss_cons (rs_set (i := 5) sc_law.nd rfl (by first | exact Or.inl rfl | exact Or.inr rfl) (re_callC C__law_made hq (hr.mono (by omega)) (ra_cons (re_var 2) (ra_cons (re_var 3) ra_nil)) (lenA_cons (lenA_cons lenA_nil))))
    (rss_cons (rs_if (L2.PW.pt (rw_or (rt_not (rt_val (re_isx T.i_LayerError (re_var 5) rfl T.n_isinstance rfl T.g_LayerError))) (rw_or1 (rt_not (rt_val (re_isxT T.i_ValueError (re_var 5) rfl T.n_isinstance rfl T.n_ValueError bt_ValueError)))))) (rss_one (rs_ret re_bl)) rss_nil)
    (rss_cons (rs_if (rt_cmp (od_ne (room_eq hr)) (re_callC C__law_kinds hq (hr.mono (by omega)) (ra_cons (re_var 5) ra_nil) (lenA_cons lenA_nil)) (re_lc (own := [("_law_kind", 8)]) rfl sc_law.nd (ri_rng1 rfl T.n_range (ra_cons re_int ra_nil)) (blkOk_by (N := ["_law_script", "_law_bag_here", "_law_way", "_law_held", "_law_plain", "_law_e", "_law_kept_text", "_law_told", "_law_kind"]) (sc := defScope s_law) (by decide +kernel)) (fun _ _ _ _ _ => (cg_name (i := 8) sc_law.nd rfl (by first | exact Or.inl rfl | exact Or.inr rfl))) (fun _ _ _ _ _ => rts_nil) (fun _ _ _ _ _ => (re_cmp (od_eq (room_eq hr)) (re_var 8) (re_var 2))))) (rss_one (rs_ret re_bl)) rss_nil)
    (rss_one (rs_if (rt_cmp od_lt (re_var 2) re_int) (rss_cons (rs_set (i := 6) sc_law.nd rfl (by first | exact Or.inl rfl | exact Or.inr rfl) (re_callB (cd_repr Z hq (room_re hr)) rfl T.n_repr bt_repr (ra_cons (re_var 3) ra_nil)))
    (rss_cons (rs_if (rt_cmp (od_ne (room_eq hr)) (re_callB (cd_repr Z hq (room_re hr)) rfl T.n_repr bt_repr (ra_cons (re_callC C__law_field hq (hr.mono (by omega)) (ra_cons (re_var 2) (ra_cons (re_var 5) ra_nil)) (lenA_cons (lenA_cons lenA_nil))) ra_nil)) (re_var 6)) (rss_one (rs_ret re_bl)) rss_nil)
    (rss_cons (rs_expr (re_mt (T := "list") md_append PySem.F.plainAttrs_list PySem.F.slot_list_append PySem.F.type_list_append (re_var 3) (ra_cons (re_callC C__law_take hq (hr.mono (by omega)) (ra_cons (re_var 1) (ra_cons re_int ra_nil)) (lenA_cons (lenA_cons lenA_nil))) ra_nil)))
    (rss_cons (rs_if (L2.PW.pt (rw_or (rt_cmp (od_ne (room_eq hr)) (re_callB (cd_repr Z hq (room_re hr)) rfl T.n_repr bt_repr (ra_cons (re_callC C__law_field hq (hr.mono (by omega)) (ra_cons (re_var 2) (ra_cons (re_var 5) ra_nil)) (lenA_cons (lenA_cons lenA_nil))) ra_nil)) (re_callB (cd_repr Z hq (room_re hr)) rfl T.n_repr bt_repr (ra_cons (re_var 3) ra_nil))) (rw_or1 (rt_cmp (od_eq (room_eq hr)) (re_callB (cd_repr Z hq (room_re hr)) rfl T.n_repr bt_repr (ra_cons (re_var 3) ra_nil)) (re_var 6))))) (rss_one (rs_ret re_bl)) rss_nil)
    (rss_cons (rs_set (i := 7) sc_law.nd rfl (by first | exact Or.inl rfl | exact Or.inr rfl) (re_callC C__law_field hq (hr.mono (by omega)) (ra_cons (re_var 2) (ra_cons (re_var 5) ra_nil)) (lenA_cons (lenA_cons lenA_nil))))
    (rss_cons (rs_expr (re_mt (T := "list") md_append PySem.F.plainAttrs_list PySem.F.slot_list_append PySem.F.type_list_append (re_var 7) (ra_cons re_non ra_nil)))
    (rss_one (rs_if (rt_cmp (od_ne (room_eq hr)) (re_callB cd_len rfl T.n_len bt_len (ra_cons (re_var 3) ra_nil)) re_int) (rss_one (rs_ret re_bl)) rss_nil)))))))) rss_nil))))))))
    (rss_one (rs_ret re_bl)))))
end

local macro_rules | `(tactic| walk_at "dl") => `(tactic| first
  | (with_reducible first
  | refine run_fn.mpr ?_ | refine run_seq.mpr ?_ | refine on_nx.mpr ?_ | refine on_rt.mpr ?_ | refine ret_rt.mpr ?_ | refine ret_nx.mpr ?_ | refine run_nx.mpr ?_ | refine run_ret.mpr ?_ | refine run_drop.mpr ?_ | refine run_ifS.mpr ?_ | refine run_asg.mpr ?_ | refine run_gNm.mpr ?_
  | refine run_par.mpr ?_ | refine run_aug.mpr ?_ | refine run_gSb.mpr ?_ | refine run_tst.mpr ?_ | refine run_asB.mpr ?_ | refine run_bin.mpr ?_ | refine run_un.mpr ?_ | refine run_cl.mpr ?_ | refine run_consA.mpr ?_ | refine run_nilA.mpr ?_ | refine run_cst.mpr ?_
  | refine run_ifM.mpr ?_ | refine run_andT.mpr ?_ | refine run_orT.mpr ?_ | refine run_notT.mpr ?_ | refine run_andV.mpr ?_ | refine run_orV.mpr ?_ | refine run_notV.mpr ?_ | refine run_tup.mpr ?_ | refine run_lst.mpr ?_ | refine run_slM.mpr ?_ | refine run_noP.mpr ?_ | refine run_someP.mpr ?_
  | refine run_addI.mpr ?_ | refine run_addI'.mpr ?_ | refine run_subI.mpr ?_ | refine run_ltI.mpr ?_ | refine run_leI.mpr ?_ | refine run_gtI.mpr ?_ | refine run_geI.mpr ?_ | refine run_isN.mpr ?_ | refine run_notN.mpr ?_ | refine run_eqI.mpr ?_ | refine run_absI.mpr ?_ | refine run_intB.mpr ?_ | refine run_tupT.mpr ?_ | refine run_lenT.mpr ?_ | refine run_lenF.mpr ?_
  | refine run_pure.mpr ?_)
  | ((with_reducible refine' (run_getv ?dlh).mpr ?_); (case dlh => rfl)) | ((with_reducible refine' (run_ixT ?dlh).mpr ?_); (case dlh => rfl)))
local macro_rules | `(tactic| walk_at "dm") => `(tactic| with_reducible first
  | refine run_for.mpr ?_ | refine run_lc.mpr ?_ | refine run_itR.mpr ?_ | refine run_itA.mpr ?_ | refine run_yes.mpr ?_ | refine for_nx.mpr ?_)
open PySem PySem.Spec PyProof.Rows L2 DL
local macro_rules | `(tactic| walk_at "dw") => `(tactic| repeat (first | walk_at "dl" | walk_at "dm" | refine run_isi.mpr ?_ | refine run_chM.mpr ?_ | refine run_eqS.mpr ?_ | refine run_neI.mpr ?_ | refine run_negI.mpr ?_ | refine ⟨Nat.le_of_ble_eq_true rfl, ?_⟩ | (with_reducible refine ite_tr rfl ?_) | (with_reducible refine ite_fr rfl ?_)))
local macro_rules | `(tactic| walk_at "gets") => `(tactic| repeat (first | exact last_get | rw [List.getElem?_append_left (by simp; done)] | rw [List.getElem?_append_left (by simp; omega)]))
theorem e_take : m__law_take = takeM := rfl
theorem e_bag : m__law_bag = bagM := rfl
section
variable {A : Nat → Prop} {b0 : Nat} {S : Sto} {h b : Nat} {d : D} {p : PyData} {Q : D → Sto → Prop}
theorem run_disp1 {r : DL.Env} {a y : Str} : Run (dispM (pconM (cst (.str a)) (cst (.str y)) pnilM) r) S Q ↔ Q (.ref S.length) (S ++ [.dK [(.inr a, .str y)]]) := run_ok rfl
theorem run_pow {i j : Int} (h : 0 ≤ j ∧ j ≤ 1000000 ∧ i.natAbs < 2 ^ 64) : Run (powD (.int i) (.int j)) S Q ↔ Q (.int (i ^ j.toNat)) S := by
  unfold powD
  simp only []
  rw [if_pos h]
  exact run_pure
theorem run_mulT {a : List D} {k : Int} (h : a ≠ [] ∧ 2 ≤ k ∧ (a.length : Int) * k ≤ 1000000) : Run (mulD (.tup a) (.int k)) S Q ↔ Q (.tup (List.replicate k.toNat a).flatten) S := by
  unfold mulD
  simp only []
  rw [if_pos h]
  exact run_pure
def nines : List D := (List.replicate (Int.toNat 9000) [D.int 0]).flatten
theorem nines_len : nines.length = 9000 := by simp [nines]
theorem nines_mem {d : D} (hd : d ∈ nines) : d = .int 0 := by
  unfold nines at hd
  obtain ⟨l, h1, h2⟩ := List.mem_flatten.mp hd
  rw [(List.mem_replicate.mp h1).2] at h2
  simpa using h2
def odds (n1 n2 n3 n4 n6 : Nat) (d5 : D) : List D := [.non, .bl true, .bl false, .int 0, .int 1, .int (-1), .int 7, .int 8, .int (10 ^ 39), .str "", .str "a", .str "A", .str "abcdefgh", .str "abcdefghi", .str "a b", .str (Txt.mul "x" 21),
  .tup [], .ref n1, .ref n2, .tup [.str "a"], .tup [.str "a", .str "b"], .ref n3, .ref n4, d5, .ref n6, .tup [.str "made", .str "zip", .tup []], .tup [.str "made", .str "zip", .tup [.str "a", .non]]]
theorem gs {x : Str} (hx : (PyData.strOk x && decide (x.length ≤ 30)) = true) : Gd A S 0 302 (.str x) (.str x) := by
  rw [Bool.and_eq_true] at hx
  have := of_decide_eq_true hx.2
  exact .str hx.1 (by omega)
theorem gst {l : List Str} (hl : l.length ≤ 5) (hx : (l.all fun x => PyData.strOk x && decide (x.length ≤ 30)) = true) : ∃ p, Gd A S 1 1523 (.tup (l.map D.str)) p := by
  obtain ⟨ps, g⟩ := gda_of (b0 := A) (S := S) (h := 0) (b := 302) (ds := l.map D.str) (fun d hd => by
    obtain ⟨x, hx2, rfl⟩ := List.mem_map.mp hd
    exact ⟨_, gs (List.all_eq_true.mp hx x hx2)⟩)
  refine ⟨_, .tup g ?_⟩
  rw [List.length_map]
  omega
theorem gd_l {ds : List D} (n : Nat) (hl : ds.length ≤ n) (k : ∀ d ∈ ds, ∃ p, Gd A S h b d p) : ∃ p, Gd A S (h + 1) (n * (b + 2) + 3) (.tup ds) p := by
  obtain ⟨ps, g⟩ := gda_of k
  exact ⟨_, .tup g (Nat.add_le_add_right (Nat.mul_le_mul_right _ hl) 3)⟩
theorem gd_up {h' b' : Nat} (g : ∃ p, Gd A S h b d p) (h1 : h ≤ h') (h2 : b ≤ b') : ∃ p, Gd A S h' b' d p := let ⟨p, k⟩ := g; ⟨p, k.mono h1 h2⟩
theorem odds_gd {n1 n2 n3 n4 n6 : Nat} {d5 : D} (h1 : ¬ A n1) (h2 : ¬ A n2) (h3 : ¬ A n3) (h4 : ¬ A n4) (h6 : ¬ A n6) (e1 : S[n1]? = some (.lst [])) (e2 : S[n2]? = some (.dK [])) (e3 : S[n3]? = some (.lst [.tup [.str "a"]]))
    (e4 : S[n4]? = some (.dK [(.inr "a", .str "b")])) (g5 : ∃ p, Gd A S 9 30000 d5 p) (e6 : S[n6]? = some (.lst nines)) : ∀ d ∈ odds n1 n2 n3 n4 n6 d5, ∃ p, Gd A S 9 30000 d p := by
  have s : ∀ x : Str, (PyData.strOk x && decide (x.length ≤ 30)) = true → ∃ p, Gd A S 9 30000 (.str x) p := fun x hx => ⟨_, (gs hx).mono (by decide) (by decide)⟩
  have t : ∀ l : List Str, l.length ≤ 5 → (l.all fun x => PyData.strOk x && decide (x.length ≤ 30)) = true → ∃ p, Gd A S 9 30000 (.tup (l.map D.str)) p := fun l hl hx => gd_up (gst hl hx) (by decide) (by decide)
  have made : ∀ l : List D, l.length ≤ 2 → (∀ d ∈ l, ∃ p, Gd A S 0 302 d p) → ∃ p, Gd A S 9 30000 (.tup [.str "made", .str "zip", .tup l]) p := fun l hl hd => by
    refine gd_up (gd_l (h := 1) (b := 1523) 3 (Nat.le_of_ble_eq_true rfl) fun d hd' => ?_) (by decide) (by decide)
    simp only [List.mem_cons, List.not_mem_nil, or_false] at hd'
    rcases hd' with rfl | rfl | rfl
    · exact ⟨_, (gs (x := "made") (by decide +kernel)).mono (by decide) (by decide)⟩
    · exact ⟨_, (gs (x := "zip") (by decide +kernel)).mono (by decide) (by decide)⟩
    · exact gd_up (gd_l 2 hl hd) (by decide) (by decide)
  unfold odds
  intro d hd
  simp only [List.mem_cons, List.not_mem_nil, or_false] at hd
  rcases hd with rfl | rfl | rfl | rfl | rfl | rfl | rfl | rfl | rfl | rfl | rfl | rfl | rfl | rfl | rfl | rfl | rfl | rfl | rfl | rfl | rfl | rfl | rfl | rfl | rfl | rfl | rfl
  · exact ⟨_, .non (by decide)⟩
  · exact ⟨_, .bl (by decide)⟩
  · exact ⟨_, .bl (by decide)⟩
  · exact ⟨_, .int (by decide +kernel) (by decide +kernel)⟩
  · exact ⟨_, .int (by decide +kernel) (by decide +kernel)⟩
  · exact ⟨_, .int (by decide +kernel) (by decide +kernel)⟩
  · exact ⟨_, .int (by decide +kernel) (by decide +kernel)⟩
  · exact ⟨_, .int (by decide +kernel) (by decide +kernel)⟩
  · exact ⟨_, .int (by decide +kernel) (by decide +kernel)⟩
  · exact s _ (by decide +kernel)
  · exact s _ (by decide +kernel)
  · exact s _ (by decide +kernel)
  · exact s _ (by decide +kernel)
  · exact s _ (by decide +kernel)
  · exact s _ (by decide +kernel)
  · exact s _ (by decide +kernel)
  · exact t [] (by decide) (by decide +kernel)
  · exact ⟨_, .lst (B := 0) h1 e1 .nil (by decide)⟩
  · exact ⟨_, .dic h2 e2 rfl (by decide +kernel) (by decide +kernel) (by decide +kernel)⟩
  · exact t ["a"] (by decide) (by decide +kernel)
  · exact t ["a", "b"] (by decide) (by decide +kernel)
  · obtain ⟨p, g⟩ := gst (A := A) (S := S) (l := ["a"]) (by decide) (by decide +kernel)
    exact ⟨_, .lst (B := 1525) h3 e3 ((GdA.one g).mono (by decide) (Nat.le_refl _)) (by decide)⟩
  · exact ⟨_, .dic h4 e4 rfl (by decide +kernel) (by decide +kernel) (by decide +kernel)⟩
  · exact g5
  · obtain ⟨ps, g⟩ := gda_of (b0 := A) (S := S) (h := 8) (b := 1) (ds := nines) (fun d hd => by
      rw [nines_mem hd]
      exact ⟨_, .int (by decide +kernel) (by decide +kernel)⟩)
    rw [nines_len] at g
    exact ⟨_, .lst h6 e6 g (by decide)⟩
  · exact made [] (by decide) fun d hd => absurd hd (List.not_mem_nil)
  · refine made [.str "a", .non] (Nat.le_of_ble_eq_true rfl) fun d hd => ?_
    simp only [List.mem_cons, List.not_mem_nil, or_false] at hd
    rcases hd with rfl | rfl
    · exact ⟨_, gs (by decide +kernel)⟩
    · exact ⟨_, .non (by decide)⟩
theorem odds_len {n1 n2 n3 n4 n6 : Nat} {d5 : D} : (odds n1 n2 n3 n4 n6 d5).length = 27 := rfl
theorem at_some {xs : List D} {i : Int} (h0 : 0 ≤ i) (h1 : i < (xs.length : Int)) : ∃ d, atI xs i = some d ∧ xs[i.toNat]? = some d := by
  have h2 : i.toNat < xs.length := by omega
  refine ⟨xs[i.toNat], ?_, List.getElem?_eq_getElem h2⟩
  unfold atI ixN
  rw [if_pos h0, if_pos h1]
  exact List.getElem?_eq_getElem h2
/-! new things, by what is known of them -/
theorem lst_abs {r : DL.Env} {mA : DL.Env → M (List D)} (h : Run (mA r) S fun xs S1 => xs.length ≤ sizeLine ∧ ∀ n S2, S1.length ≤ n → Gw S1 S2 → S2[n]? = some (.lst xs) → Q (.ref n) S2) : Run (lstM mA r) S Q :=
  run_lst.mpr (h.imp fun xs S1 ⟨h1, h2⟩ => ⟨h1, h2 _ _ (Nat.le_refl _) Gw.one last_get⟩)
theorem dnew_abs {r : DL.Env} (h : ∀ n S2, S.length ≤ n → Gw S S2 → S2[n]? = some (.dK []) → Q (.ref n) S2) : Run (dnewM r) S Q := run_dnew.mpr (h _ _ (Nat.le_refl _) Gw.one last_get)
theorem disp_abs {r : DL.Env} {a y : Str} (h : ∀ n S2, S.length ≤ n → Gw S S2 → S2[n]? = some (.dK [(.inr a, .str y)]) → Q (.ref n) S2) : Run (dispM (pconM (cst (.str a)) (cst (.str y)) pnilM) r) S Q := run_disp1.mpr (h _ _ (Nat.le_refl _) Gw.one last_get)
theorem mulL_abs {n : Nat} {a : List D} {k : Int} (hn : S[n]? = some (.lst a)) (h0 : 0 ≤ k) (h1 : k < 2 ^ 63) (hz : a.length * k.toNat ≤ sizeLine) (h : ∀ n S2, S.length ≤ n → Gw S S2 → S2[n]? = some (.lst (List.replicate k.toNat a).flatten) → Q (.ref n) S2) : Run (mulD (.ref n) (.int k)) S Q :=
  (run_mulL hn h0 h1 hz).mpr (h _ _ (Nat.le_refl _) Gw.one last_get)
theorem addL_abs {n m : Nat} {a c : List D} (hn : S[n]? = some (.lst a)) (hm : S[m]? = some (.lst c)) (hz : a.length + c.length ≤ sizeLine) (h : ∀ n S2, S.length ≤ n → Gw S S2 → S2[n]? = some (.lst (a ++ c)) → Q (.ref n) S2) : Run (addD (.ref n) (.ref m)) S Q :=
  (run_addL hn hm hz).mpr (h _ _ (Nat.le_refl _) Gw.one last_get)
theorem gw_len {S S' : Sto} (a : Gw S S') : S.length ≤ S'.length := by
  obtain ⟨T, rfl⟩ := a
  simp
local macro_rules | `(tactic| walk_at "dn") => `(tactic| repeat (first | (with_reducible first | refine run_consA.mpr ?_ | refine run_nilA.mpr ?_ | refine run_cst.mpr ?_ | refine run_tup.mpr ?_ | refine run_asg.mpr ?_ | refine run_bin.mpr ?_ | refine run_un.mpr ?_ | refine run_negI.mpr ?_ | refine run_gNm.mpr ?_ | refine on_nx.mpr ?_ | refine run_seq.mpr ?_ | refine ⟨Nat.le_of_ble_eq_true rfl, ?_⟩) | ((with_reducible refine' (run_getv ?dlh).mpr ?_); (case dlh => rfl))))
theorem odd_run (hA : A b0) (hN : ∀ i, S.length ≤ i → ¬ A i) (hb : Bag S b0) (k : ∀ d S' p, Gd A S' 9 30000 d p → Bag S' b0 → Fr b0 S S' → Q d S') : Run (m__law_odd [.ref b0]) S Q := by
  have hlt := hb.lt
  have ne : ∀ n, ¬ A n → n ≠ b0 := fun n h e => h (e ▸ hA)
  unfold m__law_odd b__law_odd
  rw [e_take]
  walk_at "dw"
  refine run_itR1 (by decide) (by decide) ?_
  rw [size_rng]
  refine for_rng (fun i r S' => Gw S S' ∧ ∃ d p x2, r = [some (.ref b0), some d, x2, none] ∧ Gd A S' i (12 + 5 * i) d p) ⟨Gw.refl, _, _, _, rfl, .str (x := "a") (by decide +kernel) (by decide +kernel)⟩ (fun i r S1 hi ⟨w1, d, p, x2, er, g⟩ => ?_) (fun r S1 ⟨w1, d5, p5, x2, er, g5⟩ => ?_)
  · subst er
    walk_at "dw"
    have hl1 := gw_len w1
    exact ⟨w1.trans Gw.one, _, _, _, rfl, .lst (hN _ hl1) last_get (GdA.one (g.fr Gw.one.fa)) (by omega)⟩
  · subst er
    have hl1 := gw_len w1
    refine on_nx.mpr ?_
    have key : ∀ (S6 : Sto) (n1 n2 n3 n4 n6 n : Nat) (x2 : Option D), Gw S1 S6 → ¬ A n1 → ¬ A n2 → ¬ A n3 → ¬ A n4 → ¬ A n6 → ¬ A n → S6[n1]? = some (.lst []) → S6[n2]? = some (.dK []) → S6[n3]? = some (.lst [.tup [.str "a"]]) → S6[n4]? = some (.dK [(.inr "a", .str "b")]) → S6[n6]? = some (.lst nines) → S6[n]? = some (.lst (odds n1 n2 n3 n4 n6 d5)) →
        Run (retM (binM ixD (getv 3) (clM takeM (consA (getv 0) (consA (cst (.int 27)) nilA)))) [some (.ref b0), some d5, x2, some (.ref n)]) S6 (onRet Q) := fun S6 n1 n2 n3 n4 n6 n x2 w h1 h2 h3 h4 h6 hn e1 e2 e3 e4 e6 en => by
      walk_at "dw"
      have w' := w1.trans w
      refine take_run (w'.bag hb) (by decide) (by decide) fun m S7 m0 m1 hB7 fr7 => ?_
      obtain ⟨d, hd, hd2⟩ := at_some (xs := odds n1 n2 n3 n4 n6 d5) m0 m1
      refine (run_ixL (fr7.get (ne _ hn) en) hd).mpr ?_
      obtain ⟨p, hp⟩ := odds_gd h1 h2 h3 h4 h6 (fr7.get (ne _ h1) e1) (fr7.get (ne _ h2) e2) (fr7.get (ne _ h3) e3) (fr7.get (ne _ h4) e4) ⟨_, ((g5.fr w.fa).fr (fr7.fa hA)).mono (by decide) (by decide)⟩ (fr7.get (ne _ h6) e6) d (List.mem_of_getElem? hd2)
      exact k d S7 p hp hB7 (w'.fr.trans fr7)
    have hN1 : ∀ i, S1.length ≤ i → ¬ A i := fun i hi => hN i (Nat.le_trans hl1 hi)
    walk_at "dn"
    refine lst_abs ?_
    walk_at "dn"
    refine (run_pow (by decide)).mpr ?_
    walk_at "dn"
    refine run_mulS.mpr ⟨by decide +kernel, ?_⟩
    walk_at "dn"
    intro n16 S2 hn16 w2 e16
    walk_at "dn"
    refine lst_abs ?_
    walk_at "dn"
    refine lst_abs ?_
    walk_at "dn"
    intro n1 S3 hn1 w3 e1
    walk_at "dn"
    refine dnew_abs fun n2 S4 hn2 w4 e2 => ?_
    walk_at "dn"
    refine lst_abs ?_
    walk_at "dn"
    intro n3 S5 hn3 w5 e3
    walk_at "dn"
    refine disp_abs fun n4 S6 hn4 w6 e4 => ?_
    walk_at "dn"
    refine lst_abs ?_
    walk_at "dn"
    intro n5 S7 hn5 w7 e5
    walk_at "dn"
    refine mulL_abs e5 (by decide) (by decide) (by decide) fun n6 S8 hn6 w8 e6 => ?_
    walk_at "dn"
    intro n9 S9 hn9 w9 e9
    walk_at "dn"
    have w29 := ((((((w3.trans w4).trans w5).trans w6).trans w7).trans w8).trans w9)
    refine addL_abs (w29.get e16) e9 (Nat.le_of_ble_eq_true rfl) fun n10 S10 hn10 w10 e10 => ?_
    walk_at "dn"
    refine lst_abs ?_
    walk_at "dn"
    intro n11 S11 hn11 w11 e11
    walk_at "dn"
    refine addL_abs (w11.get e10) e11 (Nat.le_of_ble_eq_true rfl) fun n12 S12 hn12 w12 e12 => ?_
    walk_at "dn"
    have l2 := gw_len w2
    have l3 := gw_len w3
    have l4 := gw_len w4
    have l5 := gw_len w5
    have l6 := gw_len w6
    have l7 := gw_len w7
    have l8 := gw_len w8
    have l9 := gw_len w9
    have l10 := gw_len w10
    have l11 := gw_len w11
    have l12 := gw_len w12
    have t9 := (w9.trans w10).trans (w11.trans w12)
    exact key S12 n1 n2 n3 n4 n6 n12 _ ((w2.trans w29).trans ((w10.trans w11).trans w12)) (hN1 _ (by omega)) (hN1 _ (by omega)) (hN1 _ (by omega)) (hN1 _ (by omega)) (hN1 _ (by omega)) (hN1 _ (by omega))
      (t9.get (w8.get (w7.get (w6.get (w5.get (w4.get e1)))))) (t9.get (w8.get (w7.get (w6.get (w5.get e2))))) (t9.get (w8.get (w7.get (w6.get e3)))) (t9.get (w8.get (w7.get e4))) (t9.get e6) e12
end

open PySem PySem.Spec PyProof.Rows L2 DL
section
variable {S : Sto} {r : DL.Env} {Q : D → Sto → Prop} {QF : Fl → Sto → Prop} {mo mv : DL.Env → M D} {mi : List D → M D} {c : Nat} {cs : List Nat} {f : Str} {d : D} {ds : List D}
theorem run_mkx (h : Run (mi (.ref S.length :: ds)) (S ++ [.exo c none]) fun v S' => v = .non ∧ Q (.ref S.length) S') : Run (mkxM c mi ds) S Q := by
  obtain ⟨v, S', e, rfl, q⟩ := h
  refine ⟨.ref S.length, S', ?_, q⟩
  unfold mkxM
  rw [e]
theorem run_mkx0 : Run (mkx0M c r) S Q ↔ Q (.ref S.length) (S ++ [.exo c none]) := run_ok rfl
theorem run_xinit (h : Run (mo r) S fun d S1 => ∃ n c, d = .ref n ∧ S1[n]? = some (.exo c none) ∧ c ∈ cs ∧ Q .non S1) : Run (xinitM cs mo r) S Q := by
  unfold xinitM
  refine run_bnd.mpr (h.imp ?_)
  rintro d S1 ⟨n, c, rfl, e, hc, q⟩
  refine ⟨.non, S1, ?_, q⟩
  unfold xinitD
  simp only [e]
  rw [if_pos hc]
theorem run_xset (h : Run (mv r) S fun v S1 => Run (mo r) S1 fun o S2 => ∃ n c, o = .ref n ∧ S2[n]? = some (.exo c none) ∧ c ∈ cs ∧ QF (.nx r) ((S2 ++ [O.exd [(f, v)]]).set n (O.exo c (some S2.length)))) : Run (xsetM cs f mo mv r) S QF := by
  unfold xsetM
  refine run_bnd.mpr (h.imp fun v S1 h => run_bnd.mpr (h.imp ?_))
  rintro o S2 ⟨n, c, rfl, e, hc, q⟩
  refine run_bnd.mpr ⟨(), _, ?_, run_pure.mpr q⟩
  unfold xsetD
  simp only [e]
  rw [if_pos hc]
theorem run_xfld (h : Run (mo r) S fun d S1 => ∃ n c k fs v, d = .ref n ∧ S1[n]? = some (.exo c (some k)) ∧ c ∈ cs ∧ S1[k]? = some (.exd fs) ∧ fs.lookup f = some v ∧ Q v S1) : Run (xfldM cs f mo r) S Q := by
  unfold xfldM
  refine run_bnd.mpr (h.imp ?_)
  rintro d S1 ⟨n, c, k, fs, v, rfl, e, hc, e2, l, q⟩
  refine ⟨v, S1, ?_, q⟩
  unfold xfldD
  simp only [e, e2, l]
  rw [if_pos hc]
theorem run_isx {an : Nat → Option Bool} (h : Run (mo r) S fun d S1 => ∃ n c x b, d = .ref n ∧ S1[n]? = some (.exo c x) ∧ an c = some b ∧ Q (.bl b) S1) : Run (isxM an mo r) S Q := by
  unfold isxM
  refine run_bnd.mpr (h.imp ?_)
  rintro d S1 ⟨n, c, x, b, rfl, e, hb, q⟩
  refine ⟨.bl b, S1, ?_, q⟩
  unfold isxD
  simp only [e, hb]
theorem run_append {n : Nat} {xs : List D} (h : S[n]? = some (.lst xs)) (hz : xs.length < sizeLine) : Run (appendD (.ref n) [d]) S Q ↔ Q .non (S.set n (.lst (xs ++ [d]))) := run_ok (by
  unfold appendD
  simp only [h]
  rw [if_pos hz])
end
local macro_rules | `(tactic| walk_at "dn") => `(tactic| repeat (first | (with_reducible first | refine run_consA.mpr ?_ | refine run_nilA.mpr ?_ | refine run_cst.mpr ?_ | refine run_tup.mpr ?_ | refine run_asg.mpr ?_ | refine run_bin.mpr ?_ | refine run_un.mpr ?_ | refine run_negI.mpr ?_ | refine run_gNm.mpr ?_ | refine on_nx.mpr ?_ | refine on_rt.mpr ?_ | refine ret_rt.mpr ?_ | refine ret_nx.mpr ?_ | refine run_nx.mpr ?_ | refine run_ret.mpr ?_ | refine run_seq.mpr ?_ | refine run_drop.mpr ?_ | refine run_ifS.mpr ?_ | refine run_ifM.mpr ?_ | refine run_tst.mpr ?_ | refine run_asB.mpr ?_ | refine run_notT.mpr ?_ | refine run_andT.mpr ?_ | refine run_orT.mpr ?_ | refine run_cl.mpr ?_ | refine run_eqI.mpr ?_ | refine run_ltI.mpr ?_ | refine run_neS.mpr ?_ | refine run_eqS.mpr ?_ | refine run_neI.mpr ?_ | refine run_fn.mpr ?_ | refine run_mkx0.mpr ?_) | refine And.intro (Nat.le_of_ble_eq_true rfl) ?_ | ((with_reducible refine' (run_getv ?dlh).mpr ?_); (case dlh => rfl)) | (with_reducible refine ite_tr rfl ?_) | (with_reducible refine ite_fr rfl ?_)))
section
variable {S : Sto} {Q : D → Sto → Prop} {d : D} {e way : Nat}
def clsN : List Nat := [1, 2, 3, 5, 6, 7, 11, 4, 8, 9, 10, 12]
def fldN : List Str := ["place", "path", "at", "name", "at", "limit", "at"]
/-- an error of the way stands at e -/
def Exc (S : Sto) (e way : Nat) (d : D) : Prop := (way < 7 → ∃ m, S[e]? = some (.exo (clsN.getD way 0) (some m)) ∧ S[m]? = some (.exd [(fldN.getD way "", d)])) ∧ (7 ≤ way → S[e]? = some (.exo (clsN.getD way 0) none))
def initB (c : Nat) (f : Str) : DL.Env → M Fl := seqM (dropM (xinitM [c] (getv 0))) (xsetM [c] f (getv 0) (getv 1))
theorem init_run {c : Nat} {f : Str} (k : Q (.ref S.length) (S ++ [.exo c (some (S.length + 1)), .exd [(f, d)]])) : Run (mkxM c (fnM 2 (initB c f)) [d]) S Q := by
  refine run_mkx ?_
  unfold initB
  walk_at "dn"
  refine run_xinit ?_
  walk_at "dn"
  refine ⟨S.length, c, rfl, last_get, List.mem_singleton.mpr rfl, ?_⟩
  walk_at "dn"
  refine run_xset ?_
  walk_at "dn"
  refine ⟨S.length, c, rfl, last_get, List.mem_singleton.mpr rfl, ?_⟩
  walk_at "dn"
  refine ⟨rfl, ?_⟩
  have e : ((S ++ [O.exo c none]) ++ [O.exd [(f, d)]]).set S.length (O.exo c (some (S ++ [O.exo c none]).length)) = S ++ [.exo c (some (S.length + 1)), .exd [(f, d)]] := by
    rw [List.append_assoc, List.set_append_right _ _ (Nat.le_refl _)]
    simp
  rw [e]
  exact k
theorem exc_new {c : Nat} {f : Str} {S : Sto} {d : D} : (S ++ [.exo c (some (S.length + 1)), .exd [(f, d)]])[S.length]? = some (.exo c (some (S.length + 1))) ∧ (S ++ [.exo c (some (S.length + 1)), .exd [(f, d)]])[S.length + 1]? = some (O.exd [(f, d)]) := by
  constructor
  · rw [List.getElem?_append_right (Nat.le_refl _)]; simp
  · rw [List.getElem?_append_right (Nat.le_succ _)]; simp
theorem made_run (hw : way < 12) (k : ∀ e S', Gw S S' → Exc S' e way d → Q (.ref e) S') : Run (m__law_made [.int (way : Int), d]) S Q := by
  have k1 : ∀ {c : Nat} {f : Str}, way < 7 → clsN.getD way 0 = c → fldN.getD way "" = f → Run (mkxM c (fnM 2 (initB c f)) [d]) S Q := fun {c f} h1 h2 h3 => by
    subst h2; subst h3
    exact init_run (k _ _ ⟨_, rfl⟩ ⟨fun _ => ⟨_, exc_new.1, exc_new.2⟩, fun h => absurd h1 (by omega)⟩)
  have k2 : ∀ {c : Nat}, 7 ≤ way → clsN.getD way 0 = c → Q (.ref S.length) (S ++ [.exo c none]) := fun {c} h1 h2 => by
    subst h2
    exact k _ _ Gw.one ⟨fun h => absurd h1 (by omega), fun _ => last_get⟩
  have e1 : m_Wrong_init = fnM 2 (initB 1 "place") := rfl
  have e2 : m_NoFolder_init = fnM 2 (initB 2 "path") := rfl
  have e3 : m_NoLayer_init = fnM 2 (initB 3 "at") := rfl
  have e4 : m_NoStage_init = fnM 2 (initB 5 "name") := rfl
  have e5 : m_NoStep_init = fnM 2 (initB 6 "at") := rfl
  have e6 : m_TooMany_init = fnM 2 (initB 7 "limit") := rfl
  have e7 : m_Stopped_init = fnM 2 (initB 11 "at") := rfl
  unfold m__law_made b__law_made
  rw [e1, e2, e3, e4, e5, e6, e7]
  clear e1 e2 e3 e4 e5 e6 e7
  obtain rfl | rfl | rfl | rfl | rfl | rfl | rfl | rfl | rfl | rfl | rfl | rfl : way = 0 ∨ way = 1 ∨ way = 2 ∨ way = 3 ∨ way = 4 ∨ way = 5 ∨ way = 6 ∨ way = 7 ∨ way = 8 ∨ way = 9 ∨ way = 10 ∨ way = 11 := by omega
  all_goals walk_at "dn"
  all_goals first | exact k1 (by decide) rfl rfl | exact k2 (by decide) rfl
theorem run_in3 {i a b c : Int} (h0 : 0 ≤ i) (h1 : i < 10 ^ 18) (ha : 0 ≤ a) (ha1 : a < 10 ^ 18) (hb : 0 ≤ b) (hb1 : b < 10 ^ 18) (hc : 0 ≤ c) (hc1 : c < 10 ^ 18) : Run (memD (.int i) (.tup [.int a, .int b, .int c])) S Q ↔ Q (.bl (a == i || (b == i || c == i))) S := by
  have g : Pg S 1 100 (.tup [.int a, .int b, .int c]) (.tuple [.int a, .int b, .int c]) := (pg_tup (pga_cons (pg_int ha ha1) (pga_cons (pg_int hb hb1) (pga_cons (pg_int hc hc1) pga_nil)))).mono (Nat.le_refl _) (Nat.le_of_ble_eq_true rfl)
  rw [run_inT (pg_int h0 h1) g (by decide) (by decide)]
  have e : ([PyData.int a, PyData.int b, PyData.int c].any fun y => PyData.eqv y (.int i)) = (a == i || (b == i || c == i)) := by
    simp [PyData.eqv]
  rw [e]
theorem field_run (hw : way < 7) (x : Exc S e way d) (k : Q d S) : Run (m__law_field [.int (way : Int), .ref e]) S Q := by
  obtain ⟨m, h1, h2⟩ := x.1 hw
  have key : ∀ {c : Nat} {cs : List Nat} {f : Str} {r : DL.Env}, r[1]? = some (some (.ref e)) → clsN.getD way 0 = c → fldN.getD way "" = f → c ∈ cs → Run (xfldM cs f (getv 1) r) S Q := fun {c cs f r} hr hc hf hm => by
    subst hc; subst hf
    exact run_xfld ((run_getv hr).mpr ⟨e, _, m, _, d, rfl, h1, hm, h2, by simp [List.lookup], k⟩)
  unfold m__law_field b__law_field
  obtain rfl | rfl | rfl | rfl | rfl | rfl | rfl : way = 0 ∨ way = 1 ∨ way = 2 ∨ way = 3 ∨ way = 4 ∨ way = 5 ∨ way = 6 := by omega
  all_goals walk_at "dn"
  all_goals first
    | exact key rfl rfl rfl (by decide)
    | (refine (run_in3 (by decide) (by decide) (by decide) (by decide) (by decide) (by decide) (by decide) (by decide)).mpr ?_
       walk_at "dn"
       exact key rfl rfl rfl (by decide))
end

open PySem PySem.Spec PyProof.Rows L2 DL
local macro_rules | `(tactic| walk_at "dn") => `(tactic| repeat (first | (with_reducible first | refine run_consA.mpr ?_ | refine run_nilA.mpr ?_ | refine run_cst.mpr ?_ | refine run_tup.mpr ?_ | refine run_asg.mpr ?_ | refine run_bin.mpr ?_ | refine run_un.mpr ?_ | refine run_negI.mpr ?_ | refine run_gNm.mpr ?_ | refine on_nx.mpr ?_ | refine on_rt.mpr ?_ | refine ret_rt.mpr ?_ | refine ret_nx.mpr ?_ | refine run_nx.mpr ?_ | refine run_ret.mpr ?_ | refine run_seq.mpr ?_ | refine run_drop.mpr ?_ | refine run_tst.mpr ?_ | refine run_asB.mpr ?_ | refine run_notT.mpr ?_ | refine run_andT.mpr ?_ | refine run_orT.mpr ?_ | refine run_cl.mpr ?_ | refine run_eqI.mpr ?_ | refine run_ltI.mpr ?_ | refine run_neS.mpr ?_ | refine run_eqS.mpr ?_ | refine run_neI.mpr ?_ | refine run_fn.mpr ?_ | refine run_par.mpr ?_ | refine run_pure.mpr ?_ | refine run_yes.mpr ?_ | refine for_nx.mpr ?_) | refine And.intro (Nat.le_of_ble_eq_true rfl) ?_ | ((with_reducible refine' (run_getv ?dlh).mpr ?_); (case dlh => rfl)) | (with_reducible refine ite_tr rfl ?_) | (with_reducible refine ite_fr rfl ?_)))
section
variable {S S' : Sto} {r : DL.Env} {Q : D → Sto → Prop} {QF : Fl → Sto → Prop} {d : D} {e way : Nat}
theorem ifS_no {tA : DL.Env → M Bool} {a : DL.Env → M Fl} (h : Run (tA r) S fun c S1 => c = false ∧ QF (.nx r) S1) : Run (ifS tA a nxM r) S QF :=
  run_ifS.mpr (h.imp fun c S1 ⟨hc, q⟩ => by
    subst hc
    exact ite_fr rfl (run_nx.mpr q))
theorem ifS_if {tA : DL.Env → M Bool} {a : DL.Env → M Fl} (h : Run (tA r) S fun c S1 => (c = true → Run (a r) S1 QF) ∧ (c = false → QF (.nx r) S1)) : Run (ifS tA a nxM r) S QF :=
  run_ifS.mpr (h.imp fun c S1 ⟨q1, q2⟩ => ite_bo q1 fun hc => run_nx.mpr (q2 hc))
theorem Exc.at (x : Exc S e way d) : ∃ y, S[e]? = some (.exo (clsN.getD way 0) y) := by
  by_cases h : way < 7
  · obtain ⟨m, h1, _⟩ := x.1 h
    exact ⟨_, h1⟩
  · exact ⟨_, x.2 (by omega)⟩
theorem Exc.fr {A : Nat → Prop} (x : Exc S e way d) (f : FrA A S S') (hl : ∀ i, A i → ∃ xs, S[i]? = some (.lst xs)) : Exc S' e way d := by
  have n1 : ∀ {i : Nat} {o : O}, S[i]? = some o → (∀ xs, o ≠ .lst xs) → ¬ A i := fun {i o} h1 h2 z => by
    obtain ⟨xs, h3⟩ := hl i z
    rw [h1] at h3
    exact h2 xs (Option.some.inj h3)
  refine ⟨fun h => ?_, fun h => ?_⟩
  · obtain ⟨m, h1, h2⟩ := x.1 h
    exact ⟨m, f.get (n1 h1 fun xs z => by cases z) h1, f.get (n1 h2 fun xs z => by cases z) h2⟩
  · have h1 := x.2 h
    exact f.get (n1 h1 fun xs z => by cases z) h1
theorem an_all : ∀ way, way < 12 → an_Wrong (clsN.getD way 0) = some (decide (0 = way)) ∧ an_NoFolder (clsN.getD way 0) = some (decide (1 = way)) ∧ an_NoLayer (clsN.getD way 0) = some (decide (2 = way)) ∧ an_NoStage (clsN.getD way 0) = some (decide (3 = way)) ∧
    an_NoStep (clsN.getD way 0) = some (decide (4 = way)) ∧ an_TooMany (clsN.getD way 0) = some (decide (5 = way)) ∧ an_Stopped (clsN.getD way 0) = some (decide (6 = way)) ∧ an_NoQuotient (clsN.getD way 0) = some (decide (7 = way)) ∧
    an_Unlike (clsN.getD way 0) = some (decide (8 = way)) ∧ an_NoDeed (clsN.getD way 0) = some (decide (9 = way)) ∧ an_Nothing (clsN.getD way 0) = some (decide (10 = way)) ∧ an_NoText (clsN.getD way 0) = some (decide (11 = way)) ∧
    an_LayerError (clsN.getD way 0) = some true ∧ an_ValueError (clsN.getD way 0) = some true := by decide
def kindsL (way : Nat) : List D := (List.range 12).map fun j => .bl (decide (j = way))
theorem kinds_run (hw : way < 12) (x : Exc S e way d) (k : ∀ n S', Gw S S' → S'[n]? = some (.lst (kindsL way)) → Q (.ref n) S') : Run (m__law_kinds [.ref e]) S Q := by
  obtain ⟨y, hy⟩ := x.at
  obtain ⟨a0, a1, a2, a3, a4, a5, a6, a7, a8, a9, a10, a11, _, _⟩ := an_all way hw
  have key : ∀ {an : Nat → Option Bool} {b : Bool} {r : DL.Env} {S1 : Sto} {Q : D → Sto → Prop}, an (clsN.getD way 0) = some b → Gw S S1 → r[0]? = some (some (.ref e)) → Q (.bl b) S1 → Run (isxM an (getv 0) r) S1 Q := fun {an b r S1 Q} ha w hr q =>
    run_isx ((run_getv hr).mpr ⟨e, _, y, b, rfl, w.get hy, ha, q⟩)
  unfold m__law_kinds b__law_kinds
  walk_at "dn"
  refine lst_abs ?_
  walk_at "dn"
  refine key a0 Gw.refl rfl ?_
  walk_at "dn"
  refine key a1 Gw.refl rfl ?_
  walk_at "dn"
  refine key a2 Gw.refl rfl ?_
  walk_at "dn"
  refine key a3 Gw.refl rfl ?_
  walk_at "dn"
  intro n1 S1 _ w1 e1
  walk_at "dn"
  refine lst_abs ?_
  walk_at "dn"
  refine key a4 w1 rfl ?_
  walk_at "dn"
  refine key a5 w1 rfl ?_
  walk_at "dn"
  refine key a6 w1 rfl ?_
  walk_at "dn"
  refine key a7 w1 rfl ?_
  walk_at "dn"
  intro n2 S2 _ w2 e2
  refine addL_abs (w2.get e1) e2 (Nat.le_of_ble_eq_true rfl) fun n3 S3 _ w3 e3 => ?_
  have w123 := (w1.trans w2).trans w3
  walk_at "dn"
  refine lst_abs ?_
  walk_at "dn"
  refine key a8 w123 rfl ?_
  walk_at "dn"
  refine key a9 w123 rfl ?_
  walk_at "dn"
  refine key a10 w123 rfl ?_
  walk_at "dn"
  refine key a11 w123 rfl ?_
  walk_at "dn"
  intro n4 S4 _ w4 e4
  refine addL_abs (w4.get e3) e4 (Nat.le_of_ble_eq_true rfl) fun n5 S5 _ w5 e5 => ?_
  walk_at "dn"
  exact k n5 S5 ((w123.trans w4).trans w5) e5
theorem listText_one (a : Str) : (listText [a]).length = a.length + 2 := by
  unfold listText textFrom textFrom
  simp only [strLen_append]
  have e1 : ((("[" : String) : Str)).length = 1 := rfl
  have e2 : ((("]" : String) : Str)).length = 1 := rfl
  have e3 : (((if 0 > 0 then ", " else "" : String)) : Str).length = 0 := rfl
  omega
theorem listText_two (a b : Str) : (listText [a, b]).length = a.length + b.length + 4 := by
  unfold listText textFrom textFrom textFrom
  simp only [strLen_append]
  have e1 : ((("[" : String) : Str)).length = 1 := rfl
  have e2 : ((("]" : String) : Str)).length = 1 := rfl
  have e3 : (((if 0 > 0 then ", " else "" : String)) : Str).length = 0 := rfl
  have e4 : (((if 0 + 1 > 0 then ", " else "" : String)) : Str).length = 2 := rfl
  omega
theorem apart_text (p q : PyData) : ((PyData.list [p, q]).shown == (PyData.list [p]).shown) = false := by
  refine beq_eq_false_iff_ne.mpr fun z => ?_
  have h := congrArg Str.length z
  simp only [PyData.shown, PyData.shownAll] at h
  rw [listText_one, listText_two] at h
  omega
end

open PySem PySem.Spec PyProof.Rows L2 DL
local macro_rules | `(tactic| walk_at "dn") => `(tactic| repeat (first | (with_reducible first | refine run_consA.mpr ?_ | refine run_nilA.mpr ?_ | refine run_cst.mpr ?_ | refine run_tup.mpr ?_ | refine run_asg.mpr ?_ | refine run_bin.mpr ?_ | refine run_un.mpr ?_ | refine run_negI.mpr ?_ | refine run_gNm.mpr ?_ | refine on_nx.mpr ?_ | refine on_rt.mpr ?_ | refine ret_rt.mpr ?_ | refine ret_nx.mpr ?_ | refine run_nx.mpr ?_ | refine run_ret.mpr ?_ | refine run_seq.mpr ?_ | refine run_drop.mpr ?_ | refine run_tst.mpr ?_ | refine run_asB.mpr ?_ | refine run_notT.mpr ?_ | refine run_andT.mpr ?_ | refine run_orT.mpr ?_ | refine run_cl.mpr ?_ | refine run_eqI.mpr ?_ | refine run_ltI.mpr ?_ | refine run_neS.mpr ?_ | refine run_eqS.mpr ?_ | refine run_neI.mpr ?_ | refine run_fn.mpr ?_ | refine run_par.mpr ?_ | refine run_pure.mpr ?_ | refine run_yes.mpr ?_ | refine for_nx.mpr ?_) | refine And.intro (Nat.le_of_ble_eq_true rfl) ?_ | ((with_reducible refine' (run_getv ?dlh).mpr ?_); (case dlh => rfl)) | (with_reducible refine ite_tr rfl ?_) | (with_reducible refine ite_fr rfl ?_)))
theorem kinds_pza (way : Nat) : ∀ d ∈ kindsL way, Pz 0 5 d := fun d hd => by
  unfold kindsL at hd
  obtain ⟨j, _, rfl⟩ := List.mem_map.mp hd
  exact pz_bl
def lastB : DL.Env → M Fl :=
    seqM (asgM (clM reprD (consA (getv 3) (nilA))) (gNm 6))
    (seqM (ifS (tstM (binM neD (clM reprD (consA (clM (m__law_field) (consA (getv 2) (consA (getv 5) (nilA)))) (nilA))) (getv 6))) (retM (cst (.bl false))) (nxM))
    (seqM (dropM (mtM "list" appendD (getv 3) (consA (clM takeM (consA (getv 1) (consA (cst (.int 9)) (nilA)))) (nilA))))
    (seqM (ifS (orT (tstM (binM neD (clM reprD (consA (clM (m__law_field) (consA (getv 2) (consA (getv 5) (nilA)))) (nilA))) (clM reprD (consA (getv 3) (nilA))))) (tstM (binM eqD (clM reprD (consA (getv 3) (nilA))) (getv 6)))) (retM (cst (.bl false))) (nxM))
    (seqM (asgM (clM (m__law_field) (consA (getv 2) (consA (getv 5) (nilA)))) (gNm 7))
    (seqM (dropM (mtM "list" appendD (getv 7) (consA (cst .non) (nilA))))
    (ifS (tstM (binM neD (clM lenD (consA (getv 3) (nilA))) (cst (.int 3)))) (retM (cst (.bl false))) (nxM)))))))
def restB : DL.Env → M Fl :=
    seqM (asgM (clM (m__law_made) (consA (getv 2) (consA (getv 3) (nilA)))) (gNm 5))
    (seqM (ifS (orT (notT (tstM (isxM an_LayerError (getv 5)))) (notT (tstM (isxM an_ValueError (getv 5))))) (retM (cst (.bl false))) (nxM))
    (seqM (ifS (tstM (binM neD (clM (m__law_kinds) (consA (getv 5) (nilA))) (lcM [8] (itRng1 (consA (cst (.int 12)) (nilA))) (gNm 8) (yesM) (binM eqD (getv 8) (getv 2))))) (retM (cst (.bl false))) (nxM))
    (ifS (tstM (binM ltD (getv 2) (cst (.int 7)))) lastB (nxM))))
def loopB : DL.Env → M Fl :=
    seqM (parM 3 4 (consA (lstM (consA (clM (m__law_odd) (consA (getv 1) (nilA))) (nilA))) (consA (clM (m__law_odd) (consA (getv 1) (nilA))) (nilA))))
    (seqM (ifS (andT (tstM (binM ltD (getv 2) (cst (.int 7)))) (tstM (binM neD (clM reprD (consA (clM (m__law_field) (consA (getv 2) (consA (clM (m__law_made) (consA (getv 2) (consA (getv 4) (nilA)))) (nilA)))) (nilA))) (clM reprD (consA (getv 4) (nilA)))))) (retM (cst (.bl false))) (nxM)) restB)
def lawB : DL.Env → M Fl :=
    seqM (asgM (clM bagM (consA (getv 0) (nilA))) (gNm 1))
    (seqM (forM_ (itRng1 (consA (cst (.int 12)) (nilA))) (gNm 2) loopB) (retM (cst (.bl true))))
theorem e_law : m_law = fnM 9 lawB := rfl
section
variable {S : Sto} {QF : Fl → Sto → Prop} {x0 : Option D} {d1 d2 : D} {p1 : PyData} {i nh e : Nat} {a5 a6 a7 a8 : Option D}
theorem gd_held {S : Sto} {ds : List D} {ps : List PyData} {B : Nat} (eh : S[nh]? = some (.lst ds)) (hnh : nh ≠ 2) (g : GdA (fun j => j = 2 ∨ j = nh) S 9 B ds ps) : Gd (fun j => j = 2) S 10 (B + 3) (.ref nh) (.list ps) :=
  .lst hnh eh (g.wide fun j _ z => .inl z) (Nat.le_refl _)
theorem last_run (hi : i < 7) (hB : Bag S 2) (hnh : 2 < nh) (eh : S[nh]? = some (.lst [d1])) (g1 : Gd (fun j => j = 2 ∨ j = nh) S 9 30000 d1 p1) (x : Exc S e i (.ref nh))
    (k : ∀ S' y6 y7, Bag S' 2 → QF (.nx [x0, some (.ref 2), some (.int (i : Int)), some (.ref nh), some d2, some (.ref e), y6, y7, a8]) S') :
    Run (lastB [x0, some (.ref 2), some (.int (i : Int)), some (.ref nh), some d2, some (.ref e), a6, a7, a8]) S QF := by
  have hsz : sizeLine = 16777216 := by decide
  have hne : nh ≠ 2 := by omega
  unfold lastB
  walk_at "dn"
  have gH := gd_held eh hne (GdA.one g1)
  refine (run_reprGd gH (by decide) (by rw [hsz]; decide)).mpr ?_
  walk_at "dn"
  refine ifS_no ?_
  walk_at "dn"
  refine field_run hi x ?_
  walk_at "dn"
  refine (run_reprGd gH (by decide) (by rw [hsz]; decide)).mpr ?_
  walk_at "dn"
  refine ⟨by simp, ?_⟩
  walk_at "dn"
  refine run_mt.mpr ?_
  walk_at "dn"
  refine ⟨by unfold tyD; simp only [eh]; rfl, ?_⟩
  walk_at "dn"
  refine take_run hB (by decide) (by decide) fun m S1 m0 m1 hB1 fr1 => ?_
  walk_at "dn"
  have eh1 := fr1.get hne eh
  refine (run_append eh1 (Nat.le_of_ble_eq_true rfl)).mpr ?_
  have hlt1 := (List.getElem?_eq_some_iff.mp eh1).1
  have f2 : FrA (fun j => j = 2 ∨ j = nh) S (S1.set nh (.lst ([d1] ++ [.int m]))) := ⟨by rw [List.length_set]; exact fr1.len, fun j hj hn => by
    rw [List.getElem?_set_ne (fun z => hn (.inr z.symm)), fr1.at_ j hj (fun z => hn (.inl z))]⟩
  have hL : ∀ j, (j = 2 ∨ j = nh) → ∃ xs, S[j]? = some (.lst xs) := fun j hj => by
    rcases hj with rfl | rfl
    · obtain ⟨_, _, _, _, _, e1, _⟩ := hB.ex
      exact ⟨_, e1⟩
    · exact ⟨_, eh⟩
  have x2 : Exc (S1.set nh (.lst ([d1] ++ [.int m]))) e i (.ref nh) := x.fr f2 hL
  have eh2 : (S1.set nh (.lst ([d1] ++ [.int m])))[nh]? = some (.lst [d1, .int m]) := List.getElem?_set_self hlt1
  have g12 := g1.fr f2
  have hB2 : Bag (S1.set nh (.lst ([d1] ++ [.int m]))) 2 := hB1.set hnh
  generalize S1.set nh (.lst ([d1] ++ [.int m])) = S2 at *
  have gm : Gd (fun j => j = 2 ∨ j = nh) S2 0 18 (.int m) (.int m) := by
    have := pg_int (S := S2) (i := m) m0 (by omega)
    exact .int this.sh this.len
  have gH2 := gd_held eh2 hne (.cons g12 (GdA.one (gm.mono (by decide) (Nat.le_refl _))) (Nat.le_refl _))
  walk_at "dn"
  refine ifS_no ?_
  walk_at "dn"
  refine field_run hi x2 ?_
  walk_at "dn"
  refine (run_reprGd gH2 (by decide) (by rw [hsz]; decide)).mpr ?_
  walk_at "dn"
  refine (run_reprGd gH2 (by decide) (by rw [hsz]; decide)).mpr ?_
  walk_at "dn"
  refine ite_fr (by simp) ?_
  walk_at "dn"
  refine (run_reprGd gH2 (by decide) (by rw [hsz]; decide)).mpr ?_
  walk_at "dn"
  refine ⟨apart_text _ _, ?_⟩
  walk_at "dn"
  refine field_run hi x2 ?_
  walk_at "dn"
  refine run_mt.mpr ?_
  walk_at "dn"
  refine ⟨by unfold tyD; simp only [eh2]; rfl, ?_⟩
  walk_at "dn"
  refine (run_append eh2 (Nat.le_of_ble_eq_true rfl)).mpr ?_
  walk_at "dn"
  have hlt2 := (List.getElem?_eq_some_iff.mp eh2).1
  refine ifS_no ?_
  walk_at "dn"
  refine (run_lenL (List.getElem?_set_self hlt2)).mpr ?_
  walk_at "dn"
  exact ⟨rfl, k _ _ _ (hB2.set hnh)⟩
theorem rest_run (hi : i < 12) (hB : Bag S 2) (hnh : 2 < nh) (eh : S[nh]? = some (.lst [d1])) (g1 : Gd (fun j => j = 2 ∨ j = nh) S 9 30000 d1 p1)
    (k : ∀ S' y5 y6 y7, Bag S' 2 → QF (.nx [x0, some (.ref 2), some (.int (i : Int)), some (.ref nh), some d2, y5, y6, y7, a8]) S') :
    Run (restB [x0, some (.ref 2), some (.int (i : Int)), some (.ref nh), some d2, a5, a6, a7, a8]) S QF := by
  have hsz : sizeLine = 16777216 := by decide
  obtain ⟨_, _, _, _, _, _, _, _, _, _, _, _, aL, aV⟩ := an_all i hi
  unfold restB
  walk_at "dn"
  refine made_run hi fun e S1 w1 x => ?_
  obtain ⟨y, hy⟩ := x.at
  walk_at "dn"
  refine ifS_no ?_
  walk_at "dn"
  refine run_isx ?_
  walk_at "dn"
  refine ⟨e, _, y, _, rfl, hy, aL, ?_⟩
  walk_at "dn"
  refine run_isx ?_
  walk_at "dn"
  refine ⟨e, _, y, _, rfl, hy, aV, ?_⟩
  walk_at "dn"
  refine ⟨rfl, ?_⟩
  walk_at "dn"
  refine ifS_no ?_
  walk_at "dn"
  refine kinds_run hi x fun n S2 w2 en => ?_
  walk_at "dn"
  refine run_lc.mpr (run_itR.mpr ?_)
  walk_at "dn"
  refine run_itR1 (by decide) (by decide) ?_
  rw [size_rng]
  refine comp_rng (fun j acc S' => S' = S2 ∧ acc = (List.range j).map fun j => D.bl (decide (j = i))) ⟨rfl, rfl⟩ (fun j acc S' hj ⟨es, ea⟩ => ?_) (fun acc S' ⟨es, ea⟩ => ?_)
  · subst es
    walk_at "dn"
    have hj12 : j < 12 := hj
    refine ⟨by rw [ea, List.length_map, List.length_range, hsz]; omega, rfl, ?_⟩
    rw [ea, List.range_succ, List.map_append]
    have e1 : ((0 : Int) + (j : Int) == (i : Int)) = decide (j = i) := by
      rw [Bool.eq_iff_iff, beq_iff_eq, decide_eq_true_iff]
      omega
    rw [e1]
    rfl
  · subst es
    obtain ⟨ps, gp⟩ := pza (kinds_pza i)
    have ec : acc = kindsL i := ea
    subst ec
    refine (run_neG (pg_lst (Gw.one.get en) (gp _)) (pg_lst last_get (gp _)) (by decide) (by decide)).mpr ?_
    rw [SeqAt.eqv_refl _ (pg_lst en (gp _)).lay]
    walk_at "dn"
    refine ⟨rfl, ?_⟩
    walk_at "dn"
    have w := (w1.trans w2).trans (Gw.one (o := O.lst (kindsL i)))
    refine ifS_if ?_
    walk_at "dn"
    refine ⟨fun hc => ?_, fun _ => k _ _ _ _ (w.bag hB)⟩
    have hi7 : i < 7 := by have := of_decide_eq_true hc; omega
    have hL : ∀ j : Nat, False → ∃ xs, S1[j]? = some (.lst xs) := fun j hj => hj.elim
    exact last_run hi7 (w.bag hB) hnh (w.get eh) (g1.fr w.fa) (x.fr (A := fun _ => False) (w2.trans Gw.one).fa hL) fun S' y6 y7 hB' => k S' _ y6 y7 hB'
end
theorem law_run (ns : List Int) (h : ns.length ≤ 63) : Run (m_law [.fl (ns.map DL.D.int)]) [] fun d _ => d = .bl true := by
  have hsz : sizeLine = 16777216 := by decide
  rw [e_law]
  unfold lawB
  walk_at "dn"
  refine bag_run (by omega) fun S1 hB _ => ?_
  walk_at "dn"
  refine run_for.mpr (run_itR.mpr ?_)
  walk_at "dn"
  refine run_itR1 (by decide) (by decide) ?_
  rw [size_rng]
  refine for_rng (fun i r S => Bag S 2 ∧ ∃ a2 a3 a4 a5 a6 a7 a8, r = [some (.fl (ns.map DL.D.int)), some (.ref 2), a2, a3, a4, a5, a6, a7, a8]) ⟨hB, _, _, _, _, _, _, _, rfl⟩ (fun i r S hi ⟨hB, a2, a3, a4, a5, a6, a7, a8, er⟩ => ?_) (fun r S ⟨_, a2, a3, a4, a5, a6, a7, a8, er⟩ => ?_)
  · subst er
    have hi12 : i < 12 := hi
    rw [Int.zero_add]
    unfold loopB
    walk_at "dn"
    have hlt := hB.lt
    refine lst_abs ?_
    walk_at "dn"
    refine odd_run (A := fun j => j = 2) rfl (fun j hj z => by omega) hB fun d1 S1 p1 g1 hB1 fr1 => ?_
    walk_at "dn"
    intro nh S2 hnh w2 eh
    have hlt1 := hB1.lt
    have hnh2 : 2 < nh := by omega
    have hltS2 : nh < S2.length := (List.getElem?_eq_some_iff.mp eh).1
    have g1A : Gd (fun j => j = 2 ∨ j = nh) S2 9 30000 d1 p1 := (g1.wide (A := fun j => j = 2 ∨ j = nh) fun j hj z => z.elim id fun e => by omega).fr w2.fa
    have hB2 := w2.bag hB1
    walk_at "dn"
    refine odd_run (A := fun j => j = 2 ∨ j = nh) (.inl rfl) (fun j hj z => by have := hB2.lt; omega) hB2 fun d2 S3 p2 g2 hB3 fr3 => ?_
    walk_at "dn"
    have eh3 := fr3.get (Nat.ne_of_gt hnh2) eh
    have g1B := g1A.fr (fr3.fa (A := fun j => j = 2 ∨ j = nh) (.inl rfl))
    have fin : ∀ {QF : Fl → Sto → Prop} S4, (∀ S' y5 y6 y7, Bag S' 2 → QF (.nx [some (.fl (ns.map DL.D.int)), some (.ref 2), some (.int (i : Int)), some (.ref nh), some d2, y5, y6, y7, a8]) S') → Gw S3 S4 → Run (restB [some (.fl (ns.map DL.D.int)), some (.ref 2), some (.int (i : Int)), some (.ref nh), some d2, a5, a6, a7, a8]) S4 QF := fun S4 k w =>
      rest_run hi12 (w.bag hB3) hnh2 (w.get eh3) (g1B.fr w.fa) k
    refine ifS_no ?_
    walk_at "dn"
    refine ite_bo (fun hc => ?_) (fun hc => ⟨rfl, on_nx.mpr (fin S3 (fun S' y5 y6 y7 hB' => for_nx.mpr ⟨hB', _, _, _, _, _, _, _, rfl⟩) Gw.refl)⟩)
    have hi7 : i < 7 := by have := of_decide_eq_true hc; omega
    walk_at "dn"
    refine made_run hi12 fun e S4 w4 x => ?_
    walk_at "dn"
    refine field_run hi7 x ?_
    walk_at "dn"
    refine (run_reprGd (g2.fr w4.fa) (by decide) (by rw [hsz]; decide)).mpr ?_
    walk_at "dn"
    refine (run_reprGd (g2.fr w4.fa) (by decide) (by rw [hsz]; decide)).mpr ?_
    walk_at "dn"
    exact ⟨by simp, on_nx.mpr (fin S4 (fun S' y5 y6 y7 hB' => for_nx.mpr ⟨hB', _, _, _, _, _, _, _, rfl⟩) w4)⟩
  · subst er
    refine on_nx.mpr ?_
    walk_at "dn"
    rfl
theorem law_true (ns : List Int) (h : ns.length ≤ 63) : ∃ S', W.m_law [.fl (ns.map DL.D.int)] [] = .ok (.bl true) S' := by
  obtain ⟨d, S', e, rfl⟩ := law_run ns h
  exact ⟨S', e⟩

end W
set_option pp.deepTerms false
set_option pp.maxSteps 300
open PySem PySem.W PyProof.Rows
set_option maxRecDepth 100000 in
set_option maxHeartbeats 0 in
theorem PySem.Challenge.cw_recipelayers_k13_errors_apart_holds : PySem.Challenge.rw_recipelayers_k13_errors_apart.Holds := by
  w_on; o_law; k_head; (case hw => w_witness2)
  k_fill
  refine DL.walk_G (l := PySem.Challenge.rw_recipelayers_k13_errors_apart) (n := 63) (k := 4) (x := "_law_script") (mf := W.m_law) (by decide +kernel) rfl (by decide) rfl ⟨rfl, by decide, by decide⟩ (fun w h Y => PySem.W.kIn_of Y) ?F (fun ns h => W.law_true ns h)
  case F =>
    intro w mg fa h KX G hmg0
    have hmg : mg "law" = some (.ref fa) := hmg0
    clear hmg0
    have D__law_bag : DL.DefOk (L2.KOf KX) mg "_law_bag" "_law_bag" W.s__law_bag ["_law_script"] := by
      unfold L2.KOf
      refine' DL.def_mk KX G ?a ?l ?c ?k (fun _ _ _ _ _ _ us hl => match us, hl with | [_], _ => rfl)
      (case a => k_is); (case l => k_is); (case c => k_is); (case k => k_is)
    have D__law_field : DL.DefOk (L2.KOf KX) mg "_law_field" "_law_field" W.s__law_field ["_law_way", "_law_e"] := by
      unfold L2.KOf
      refine' DL.def_mk KX G ?a ?l ?c ?k (fun _ _ _ _ _ _ us hl => match us, hl with | [_, _], _ => rfl)
      (case a => k_is); (case l => k_is); (case c => k_is); (case k => k_is)
    have D__law_kinds : DL.DefOk (L2.KOf KX) mg "_law_kinds" "_law_kinds" W.s__law_kinds ["_law_e"] := by
      unfold L2.KOf
      refine' DL.def_mk KX G ?a ?l ?c ?k (fun _ _ _ _ _ _ us hl => match us, hl with | [_], _ => rfl)
      (case a => k_is); (case l => k_is); (case c => k_is); (case k => k_is)
    have D__law_made : DL.DefOk (L2.KOf KX) mg "_law_made" "_law_made" W.s__law_made ["_law_way", "_law_thing"] := by
      unfold L2.KOf
      refine' DL.def_mk KX G ?a ?l ?c ?k (fun _ _ _ _ _ _ us hl => match us, hl with | [_, _], _ => rfl)
      (case a => k_is); (case l => k_is); (case c => k_is); (case k => k_is)
    have D__law_take : DL.DefOk (L2.KOf KX) mg "_law_take" "_law_take" W.s__law_take ["_law_bag_here", "_law_many"] := by
      unfold L2.KOf
      refine' DL.def_mk KX G ?a ?l ?c ?k (fun _ _ _ _ _ _ us hl => match us, hl with | [_, _], _ => rfl)
      (case a => k_is); (case l => k_is); (case c => k_is); (case k => k_is)
    have D__law_odd : DL.DefOk (L2.KOf KX) mg "_law_odd" "_law_odd" W.s__law_odd ["_law_bag_here"] := by
      unfold L2.KOf
      refine' DL.def_mk KX G ?a ?l ?c ?k (fun _ _ _ _ _ _ us hl => match us, hl with | [_], _ => rfl)
      (case a => k_is); (case l => k_is); (case c => k_is); (case k => k_is)
    have D_law : DL.DefOk (L2.KOf KX) mg "law" "law" W.s_law ["_law_script"] := by
      unfold L2.KOf
      refine' DL.def_mk KX G ?a ?l ?c ?k (fun _ _ _ _ _ _ us hl => match us, hl with | [_], _ => rfl)
      (case a => k_is); (case l => k_is); (case c => k_is); (case k => k_is)
    have n_ValueError : mg "ValueError" = none := PySem.W.mg_none_of KX G (by k_is)
    have n_abs : mg "abs" = none := PySem.W.mg_none_of KX G (by k_is)
    have n_isinstance : mg "isinstance" = none := PySem.W.mg_none_of KX G (by k_is)
    have n_len : mg "len" = none := PySem.W.mg_none_of KX G (by k_is)
    have n_range : mg "range" = none := PySem.W.mg_none_of KX G (by k_is)
    have n_repr : mg "repr" = none := PySem.W.mg_none_of KX G (by k_is)
    have T : ∃ Γ, W.Txt (L2.KOf KX) mg Γ := by
      unfold L2.KOf at *
      refine' W.txt_mk KX G D__law_bag D__law_field D__law_kinds D__law_made D__law_take D__law_odd D_law n_ValueError n_abs n_isinstance n_len n_range n_repr ?g_LayerError ?g_Wrong ?g_NoFolder ?g_NoLayer ?g_NoQuotient ?g_NoStage ?g_NoStep ?g_TooMany ?g_Unlike ?g_NoDeed ?g_Nothing ?g_Stopped ?g_NoText ?d_Wrong_init ?d_NoFolder_init ?d_NoLayer_init ?d_NoStage_init ?d_NoStep_init ?d_TooMany_init ?d_Stopped_init ?x_LayerError ?x_Wrong ?x_NoFolder ?x_NoLayer ?x_NoQuotient ?x_NoStage ?x_NoStep ?x_TooMany ?x_Unlike ?x_NoDeed ?x_Nothing ?x_Stopped ?x_NoText ?f_NoFolder_path ?f_NoLayer_at ?f_NoStage_name ?f_NoStep_at ?f_Stopped_at ?f_TooMany_limit ?f_Wrong_place ?e_NoQuotient ?e_Unlike ?e_NoDeed ?e_Nothing ?e_NoText ?r1_LayerError ?r2_LayerError ?a_LayerError ?s_LayerError_LayerError ?s_Wrong_Wrong ?s_NoFolder_NoFolder ?s_NoLayer_NoLayer ?s_NoQuotient_NoQuotient ?s_NoStage_NoStage ?s_NoStep_NoStep ?s_TooMany_TooMany ?s_Unlike_Unlike ?s_NoDeed_NoDeed ?s_Nothing_Nothing ?s_Stopped_Stopped ?s_NoText_NoText ?s_NoText_LayerError ?s_Stopped_LayerError ?s_Nothing_LayerError ?s_NoDeed_LayerError ?s_Unlike_LayerError ?s_TooMany_LayerError ?s_NoStep_LayerError ?s_NoStage_LayerError ?s_NoQuotient_LayerError ?s_NoLayer_LayerError ?s_NoFolder_LayerError ?s_Wrong_LayerError ?s_NoText_Wrong ?s_Stopped_Wrong ?s_Nothing_Wrong ?s_NoDeed_Wrong ?s_Unlike_Wrong ?s_TooMany_Wrong ?s_NoStep_Wrong ?s_NoStage_Wrong ?s_NoQuotient_Wrong ?s_NoLayer_Wrong ?s_NoFolder_Wrong ?s_NoText_NoFolder ?s_Stopped_NoFolder ?s_Nothing_NoFolder ?s_NoDeed_NoFolder ?s_Unlike_NoFolder ?s_TooMany_NoFolder ?s_NoStep_NoFolder ?s_NoStage_NoFolder ?s_NoQuotient_NoFolder ?s_NoLayer_NoFolder ?s_Wrong_NoFolder ?s_NoText_NoLayer ?s_Stopped_NoLayer ?s_Nothing_NoLayer ?s_NoDeed_NoLayer ?s_Unlike_NoLayer ?s_TooMany_NoLayer ?s_NoStep_NoLayer ?s_NoStage_NoLayer ?s_NoQuotient_NoLayer ?s_NoFolder_NoLayer ?s_Wrong_NoLayer ?s_NoText_NoQuotient ?s_Stopped_NoQuotient ?s_Nothing_NoQuotient ?s_NoDeed_NoQuotient ?s_Unlike_NoQuotient ?s_TooMany_NoQuotient ?s_NoStep_NoQuotient ?s_NoStage_NoQuotient ?s_NoLayer_NoQuotient ?s_NoFolder_NoQuotient ?s_Wrong_NoQuotient ?s_NoText_NoStage ?s_Stopped_NoStage ?s_Nothing_NoStage ?s_NoDeed_NoStage ?s_Unlike_NoStage ?s_TooMany_NoStage ?s_NoStep_NoStage ?s_NoQuotient_NoStage ?s_NoLayer_NoStage ?s_NoFolder_NoStage ?s_Wrong_NoStage ?s_NoText_NoStep ?s_Stopped_NoStep ?s_Nothing_NoStep ?s_NoDeed_NoStep ?s_Unlike_NoStep ?s_TooMany_NoStep ?s_NoStage_NoStep ?s_NoQuotient_NoStep ?s_NoLayer_NoStep ?s_NoFolder_NoStep ?s_Wrong_NoStep ?s_NoText_TooMany ?s_Stopped_TooMany ?s_Nothing_TooMany ?s_NoDeed_TooMany ?s_Unlike_TooMany ?s_NoStep_TooMany ?s_NoStage_TooMany ?s_NoQuotient_TooMany ?s_NoLayer_TooMany ?s_NoFolder_TooMany ?s_Wrong_TooMany ?s_NoText_Unlike ?s_Stopped_Unlike ?s_Nothing_Unlike ?s_NoDeed_Unlike ?s_TooMany_Unlike ?s_NoStep_Unlike ?s_NoStage_Unlike ?s_NoQuotient_Unlike ?s_NoLayer_Unlike ?s_NoFolder_Unlike ?s_Wrong_Unlike ?s_NoText_NoDeed ?s_Stopped_NoDeed ?s_Nothing_NoDeed ?s_Unlike_NoDeed ?s_TooMany_NoDeed ?s_NoStep_NoDeed ?s_NoStage_NoDeed ?s_NoQuotient_NoDeed ?s_NoLayer_NoDeed ?s_NoFolder_NoDeed ?s_Wrong_NoDeed ?s_NoText_Nothing ?s_Stopped_Nothing ?s_NoDeed_Nothing ?s_Unlike_Nothing ?s_TooMany_Nothing ?s_NoStep_Nothing ?s_NoStage_Nothing ?s_NoQuotient_Nothing ?s_NoLayer_Nothing ?s_NoFolder_Nothing ?s_Wrong_Nothing ?s_NoText_Stopped ?s_Nothing_Stopped ?s_NoDeed_Stopped ?s_Unlike_Stopped ?s_TooMany_Stopped ?s_NoStep_Stopped ?s_NoStage_Stopped ?s_NoQuotient_Stopped ?s_NoLayer_Stopped ?s_NoFolder_Stopped ?s_Wrong_Stopped ?s_Stopped_NoText ?s_Nothing_NoText ?s_NoDeed_NoText ?s_Unlike_NoText ?s_TooMany_NoText ?s_NoStep_NoText ?s_NoStage_NoText ?s_NoQuotient_NoText ?s_NoLayer_NoText ?s_NoFolder_NoText ?s_Wrong_NoText ?s_NoText_ValueError ?s_Stopped_ValueError ?s_Nothing_ValueError ?s_NoDeed_ValueError ?s_Unlike_ValueError ?s_TooMany_ValueError ?s_NoStep_ValueError ?s_NoStage_ValueError ?s_NoQuotient_ValueError ?s_NoLayer_ValueError ?s_NoFolder_ValueError ?s_Wrong_ValueError
      (case g_LayerError => k_is)
      (case g_Wrong => k_is)
      (case g_NoFolder => k_is)
      (case g_NoLayer => k_is)
      (case g_NoQuotient => k_is)
      (case g_NoStage => k_is)
      (case g_NoStep => k_is)
      (case g_TooMany => k_is)
      (case g_Unlike => k_is)
      (case g_NoDeed => k_is)
      (case g_Nothing => k_is)
      (case g_Stopped => k_is)
      (case g_NoText => k_is)
      (case d_Wrong_init => refine' DL.init_mk ?a ?ty ?l ?c ?k (fun _ _ _ _ _ _ us hl => match us, hl with | [_, _], _ => rfl); (case a => k_is); (case ty => k_is); (case l => k_is); (case c => k_is); (case k => k_is))
      (case d_NoFolder_init => refine' DL.init_mk ?a ?ty ?l ?c ?k (fun _ _ _ _ _ _ us hl => match us, hl with | [_, _], _ => rfl); (case a => k_is); (case ty => k_is); (case l => k_is); (case c => k_is); (case k => k_is))
      (case d_NoLayer_init => refine' DL.init_mk ?a ?ty ?l ?c ?k (fun _ _ _ _ _ _ us hl => match us, hl with | [_, _], _ => rfl); (case a => k_is); (case ty => k_is); (case l => k_is); (case c => k_is); (case k => k_is))
      (case d_NoStage_init => refine' DL.init_mk ?a ?ty ?l ?c ?k (fun _ _ _ _ _ _ us hl => match us, hl with | [_, _], _ => rfl); (case a => k_is); (case ty => k_is); (case l => k_is); (case c => k_is); (case k => k_is))
      (case d_NoStep_init => refine' DL.init_mk ?a ?ty ?l ?c ?k (fun _ _ _ _ _ _ us hl => match us, hl with | [_, _], _ => rfl); (case a => k_is); (case ty => k_is); (case l => k_is); (case c => k_is); (case k => k_is))
      (case d_TooMany_init => refine' DL.init_mk ?a ?ty ?l ?c ?k (fun _ _ _ _ _ _ us hl => match us, hl with | [_, _], _ => rfl); (case a => k_is); (case ty => k_is); (case l => k_is); (case c => k_is); (case k => k_is))
      (case d_Stopped_init => refine' DL.init_mk ?a ?ty ?l ?c ?k (fun _ _ _ _ _ _ us hl => match us, hl with | [_, _], _ => rfl); (case a => k_is); (case ty => k_is); (case l => k_is); (case c => k_is); (case k => k_is))
      (case x_LayerError => refine' DL.xcls_mk ?l ?hb ?sa ?exC ?tyC ?kC ?ga ?gg ?hd ?cl ?ha ?hn ?ht ?hm; (case l => k_is); (case hb => decide +kernel); (case sa => k_is); (case exC => k_is); (case tyC => k_is); (case kC => k_is); (case ga => k_is); (case gg => k_is); (case hd => k_is); (case cl => k_is); (case ha => k_is); (case hn => k_is); (case ht => k_is); (case hm => k_is))
      (case x_Wrong => refine' DL.xcls_mk ?l ?hb ?sa ?exC ?tyC ?kC ?ga ?gg ?hd ?cl ?ha ?hn ?ht ?hm; (case l => k_is); (case hb => decide +kernel); (case sa => k_is); (case exC => k_is); (case tyC => k_is); (case kC => k_is); (case ga => k_is); (case gg => k_is); (case hd => k_is); (case cl => k_is); (case ha => k_is); (case hn => k_is); (case ht => k_is); (case hm => k_is))
      (case x_NoFolder => refine' DL.xcls_mk ?l ?hb ?sa ?exC ?tyC ?kC ?ga ?gg ?hd ?cl ?ha ?hn ?ht ?hm; (case l => k_is); (case hb => decide +kernel); (case sa => k_is); (case exC => k_is); (case tyC => k_is); (case kC => k_is); (case ga => k_is); (case gg => k_is); (case hd => k_is); (case cl => k_is); (case ha => k_is); (case hn => k_is); (case ht => k_is); (case hm => k_is))
      (case x_NoLayer => refine' DL.xcls_mk ?l ?hb ?sa ?exC ?tyC ?kC ?ga ?gg ?hd ?cl ?ha ?hn ?ht ?hm; (case l => k_is); (case hb => decide +kernel); (case sa => k_is); (case exC => k_is); (case tyC => k_is); (case kC => k_is); (case ga => k_is); (case gg => k_is); (case hd => k_is); (case cl => k_is); (case ha => k_is); (case hn => k_is); (case ht => k_is); (case hm => k_is))
      (case x_NoQuotient => refine' DL.xcls_mk ?l ?hb ?sa ?exC ?tyC ?kC ?ga ?gg ?hd ?cl ?ha ?hn ?ht ?hm; (case l => k_is); (case hb => decide +kernel); (case sa => k_is); (case exC => k_is); (case tyC => k_is); (case kC => k_is); (case ga => k_is); (case gg => k_is); (case hd => k_is); (case cl => k_is); (case ha => k_is); (case hn => k_is); (case ht => k_is); (case hm => k_is))
      (case x_NoStage => refine' DL.xcls_mk ?l ?hb ?sa ?exC ?tyC ?kC ?ga ?gg ?hd ?cl ?ha ?hn ?ht ?hm; (case l => k_is); (case hb => decide +kernel); (case sa => k_is); (case exC => k_is); (case tyC => k_is); (case kC => k_is); (case ga => k_is); (case gg => k_is); (case hd => k_is); (case cl => k_is); (case ha => k_is); (case hn => k_is); (case ht => k_is); (case hm => k_is))
      (case x_NoStep => refine' DL.xcls_mk ?l ?hb ?sa ?exC ?tyC ?kC ?ga ?gg ?hd ?cl ?ha ?hn ?ht ?hm; (case l => k_is); (case hb => decide +kernel); (case sa => k_is); (case exC => k_is); (case tyC => k_is); (case kC => k_is); (case ga => k_is); (case gg => k_is); (case hd => k_is); (case cl => k_is); (case ha => k_is); (case hn => k_is); (case ht => k_is); (case hm => k_is))
      (case x_TooMany => refine' DL.xcls_mk ?l ?hb ?sa ?exC ?tyC ?kC ?ga ?gg ?hd ?cl ?ha ?hn ?ht ?hm; (case l => k_is); (case hb => decide +kernel); (case sa => k_is); (case exC => k_is); (case tyC => k_is); (case kC => k_is); (case ga => k_is); (case gg => k_is); (case hd => k_is); (case cl => k_is); (case ha => k_is); (case hn => k_is); (case ht => k_is); (case hm => k_is))
      (case x_Unlike => refine' DL.xcls_mk ?l ?hb ?sa ?exC ?tyC ?kC ?ga ?gg ?hd ?cl ?ha ?hn ?ht ?hm; (case l => k_is); (case hb => decide +kernel); (case sa => k_is); (case exC => k_is); (case tyC => k_is); (case kC => k_is); (case ga => k_is); (case gg => k_is); (case hd => k_is); (case cl => k_is); (case ha => k_is); (case hn => k_is); (case ht => k_is); (case hm => k_is))
      (case x_NoDeed => refine' DL.xcls_mk ?l ?hb ?sa ?exC ?tyC ?kC ?ga ?gg ?hd ?cl ?ha ?hn ?ht ?hm; (case l => k_is); (case hb => decide +kernel); (case sa => k_is); (case exC => k_is); (case tyC => k_is); (case kC => k_is); (case ga => k_is); (case gg => k_is); (case hd => k_is); (case cl => k_is); (case ha => k_is); (case hn => k_is); (case ht => k_is); (case hm => k_is))
      (case x_Nothing => refine' DL.xcls_mk ?l ?hb ?sa ?exC ?tyC ?kC ?ga ?gg ?hd ?cl ?ha ?hn ?ht ?hm; (case l => k_is); (case hb => decide +kernel); (case sa => k_is); (case exC => k_is); (case tyC => k_is); (case kC => k_is); (case ga => k_is); (case gg => k_is); (case hd => k_is); (case cl => k_is); (case ha => k_is); (case hn => k_is); (case ht => k_is); (case hm => k_is))
      (case x_Stopped => refine' DL.xcls_mk ?l ?hb ?sa ?exC ?tyC ?kC ?ga ?gg ?hd ?cl ?ha ?hn ?ht ?hm; (case l => k_is); (case hb => decide +kernel); (case sa => k_is); (case exC => k_is); (case tyC => k_is); (case kC => k_is); (case ga => k_is); (case gg => k_is); (case hd => k_is); (case cl => k_is); (case ha => k_is); (case hn => k_is); (case ht => k_is); (case hm => k_is))
      (case x_NoText => refine' DL.xcls_mk ?l ?hb ?sa ?exC ?tyC ?kC ?ga ?gg ?hd ?cl ?ha ?hn ?ht ?hm; (case l => k_is); (case hb => decide +kernel); (case sa => k_is); (case exC => k_is); (case tyC => k_is); (case kC => k_is); (case ga => k_is); (case gg => k_is); (case hd => k_is); (case cl => k_is); (case ha => k_is); (case hn => k_is); (case ht => k_is); (case hm => k_is))
      (case f_NoFolder_path => k_is)
      (case f_NoLayer_at => k_is)
      (case f_NoStage_name => k_is)
      (case f_NoStep_at => k_is)
      (case f_Stopped_at => k_is)
      (case f_TooMany_limit => k_is)
      (case f_Wrong_place => k_is)
      (case e_NoQuotient => k_exc)
      (case e_Unlike => k_exc)
      (case e_NoDeed => k_exc)
      (case e_Nothing => k_exc)
      (case e_NoText => k_exc)
      (case r1_LayerError => k_is)
      (case r2_LayerError => k_is)
      (case a_LayerError => k_is)
      (case s_LayerError_LayerError => k_is)
      (case s_Wrong_Wrong => k_is)
      (case s_NoFolder_NoFolder => k_is)
      (case s_NoLayer_NoLayer => k_is)
      (case s_NoQuotient_NoQuotient => k_is)
      (case s_NoStage_NoStage => k_is)
      (case s_NoStep_NoStep => k_is)
      (case s_TooMany_TooMany => k_is)
      (case s_Unlike_Unlike => k_is)
      (case s_NoDeed_NoDeed => k_is)
      (case s_Nothing_Nothing => k_is)
      (case s_Stopped_Stopped => k_is)
      (case s_NoText_NoText => k_is)
      (case s_NoText_LayerError => k_is)
      (case s_Stopped_LayerError => k_is)
      (case s_Nothing_LayerError => k_is)
      (case s_NoDeed_LayerError => k_is)
      (case s_Unlike_LayerError => k_is)
      (case s_TooMany_LayerError => k_is)
      (case s_NoStep_LayerError => k_is)
      (case s_NoStage_LayerError => k_is)
      (case s_NoQuotient_LayerError => k_is)
      (case s_NoLayer_LayerError => k_is)
      (case s_NoFolder_LayerError => k_is)
      (case s_Wrong_LayerError => k_is)
      (case s_NoText_Wrong => k_is)
      (case s_Stopped_Wrong => k_is)
      (case s_Nothing_Wrong => k_is)
      (case s_NoDeed_Wrong => k_is)
      (case s_Unlike_Wrong => k_is)
      (case s_TooMany_Wrong => k_is)
      (case s_NoStep_Wrong => k_is)
      (case s_NoStage_Wrong => k_is)
      (case s_NoQuotient_Wrong => k_is)
      (case s_NoLayer_Wrong => k_is)
      (case s_NoFolder_Wrong => k_is)
      (case s_NoText_NoFolder => k_is)
      (case s_Stopped_NoFolder => k_is)
      (case s_Nothing_NoFolder => k_is)
      (case s_NoDeed_NoFolder => k_is)
      (case s_Unlike_NoFolder => k_is)
      (case s_TooMany_NoFolder => k_is)
      (case s_NoStep_NoFolder => k_is)
      (case s_NoStage_NoFolder => k_is)
      (case s_NoQuotient_NoFolder => k_is)
      (case s_NoLayer_NoFolder => k_is)
      (case s_Wrong_NoFolder => k_is)
      (case s_NoText_NoLayer => k_is)
      (case s_Stopped_NoLayer => k_is)
      (case s_Nothing_NoLayer => k_is)
      (case s_NoDeed_NoLayer => k_is)
      (case s_Unlike_NoLayer => k_is)
      (case s_TooMany_NoLayer => k_is)
      (case s_NoStep_NoLayer => k_is)
      (case s_NoStage_NoLayer => k_is)
      (case s_NoQuotient_NoLayer => k_is)
      (case s_NoFolder_NoLayer => k_is)
      (case s_Wrong_NoLayer => k_is)
      (case s_NoText_NoQuotient => k_is)
      (case s_Stopped_NoQuotient => k_is)
      (case s_Nothing_NoQuotient => k_is)
      (case s_NoDeed_NoQuotient => k_is)
      (case s_Unlike_NoQuotient => k_is)
      (case s_TooMany_NoQuotient => k_is)
      (case s_NoStep_NoQuotient => k_is)
      (case s_NoStage_NoQuotient => k_is)
      (case s_NoLayer_NoQuotient => k_is)
      (case s_NoFolder_NoQuotient => k_is)
      (case s_Wrong_NoQuotient => k_is)
      (case s_NoText_NoStage => k_is)
      (case s_Stopped_NoStage => k_is)
      (case s_Nothing_NoStage => k_is)
      (case s_NoDeed_NoStage => k_is)
      (case s_Unlike_NoStage => k_is)
      (case s_TooMany_NoStage => k_is)
      (case s_NoStep_NoStage => k_is)
      (case s_NoQuotient_NoStage => k_is)
      (case s_NoLayer_NoStage => k_is)
      (case s_NoFolder_NoStage => k_is)
      (case s_Wrong_NoStage => k_is)
      (case s_NoText_NoStep => k_is)
      (case s_Stopped_NoStep => k_is)
      (case s_Nothing_NoStep => k_is)
      (case s_NoDeed_NoStep => k_is)
      (case s_Unlike_NoStep => k_is)
      (case s_TooMany_NoStep => k_is)
      (case s_NoStage_NoStep => k_is)
      (case s_NoQuotient_NoStep => k_is)
      (case s_NoLayer_NoStep => k_is)
      (case s_NoFolder_NoStep => k_is)
      (case s_Wrong_NoStep => k_is)
      (case s_NoText_TooMany => k_is)
      (case s_Stopped_TooMany => k_is)
      (case s_Nothing_TooMany => k_is)
      (case s_NoDeed_TooMany => k_is)
      (case s_Unlike_TooMany => k_is)
      (case s_NoStep_TooMany => k_is)
      (case s_NoStage_TooMany => k_is)
      (case s_NoQuotient_TooMany => k_is)
      (case s_NoLayer_TooMany => k_is)
      (case s_NoFolder_TooMany => k_is)
      (case s_Wrong_TooMany => k_is)
      (case s_NoText_Unlike => k_is)
      (case s_Stopped_Unlike => k_is)
      (case s_Nothing_Unlike => k_is)
      (case s_NoDeed_Unlike => k_is)
      (case s_TooMany_Unlike => k_is)
      (case s_NoStep_Unlike => k_is)
      (case s_NoStage_Unlike => k_is)
      (case s_NoQuotient_Unlike => k_is)
      (case s_NoLayer_Unlike => k_is)
      (case s_NoFolder_Unlike => k_is)
      (case s_Wrong_Unlike => k_is)
      (case s_NoText_NoDeed => k_is)
      (case s_Stopped_NoDeed => k_is)
      (case s_Nothing_NoDeed => k_is)
      (case s_Unlike_NoDeed => k_is)
      (case s_TooMany_NoDeed => k_is)
      (case s_NoStep_NoDeed => k_is)
      (case s_NoStage_NoDeed => k_is)
      (case s_NoQuotient_NoDeed => k_is)
      (case s_NoLayer_NoDeed => k_is)
      (case s_NoFolder_NoDeed => k_is)
      (case s_Wrong_NoDeed => k_is)
      (case s_NoText_Nothing => k_is)
      (case s_Stopped_Nothing => k_is)
      (case s_NoDeed_Nothing => k_is)
      (case s_Unlike_Nothing => k_is)
      (case s_TooMany_Nothing => k_is)
      (case s_NoStep_Nothing => k_is)
      (case s_NoStage_Nothing => k_is)
      (case s_NoQuotient_Nothing => k_is)
      (case s_NoLayer_Nothing => k_is)
      (case s_NoFolder_Nothing => k_is)
      (case s_Wrong_Nothing => k_is)
      (case s_NoText_Stopped => k_is)
      (case s_Nothing_Stopped => k_is)
      (case s_NoDeed_Stopped => k_is)
      (case s_Unlike_Stopped => k_is)
      (case s_TooMany_Stopped => k_is)
      (case s_NoStep_Stopped => k_is)
      (case s_NoStage_Stopped => k_is)
      (case s_NoQuotient_Stopped => k_is)
      (case s_NoLayer_Stopped => k_is)
      (case s_NoFolder_Stopped => k_is)
      (case s_Wrong_Stopped => k_is)
      (case s_Stopped_NoText => k_is)
      (case s_Nothing_NoText => k_is)
      (case s_NoDeed_NoText => k_is)
      (case s_Unlike_NoText => k_is)
      (case s_TooMany_NoText => k_is)
      (case s_NoStep_NoText => k_is)
      (case s_NoStage_NoText => k_is)
      (case s_NoQuotient_NoText => k_is)
      (case s_NoLayer_NoText => k_is)
      (case s_NoFolder_NoText => k_is)
      (case s_Wrong_NoText => k_is)
      (case s_NoText_ValueError => k_is)
      (case s_Stopped_ValueError => k_is)
      (case s_Nothing_ValueError => k_is)
      (case s_NoDeed_ValueError => k_is)
      (case s_Unlike_ValueError => k_is)
      (case s_TooMany_ValueError => k_is)
      (case s_NoStep_ValueError => k_is)
      (case s_NoStage_ValueError => k_is)
      (case s_NoQuotient_ValueError => k_is)
      (case s_NoLayer_ValueError => k_is)
      (case s_NoFolder_ValueError => k_is)
      (case s_Wrong_ValueError => k_is)
    obtain ⟨Γ, T⟩ := T
    obtain ⟨f, fd, F, g, hb⟩ := D_law.ex
    have e := hmg.symm.trans g
    cases e
    refine ⟨Γ, fd, fun s u => ?_, fun base _ _ Z => W.ok_law F T Z⟩
    obtain ⟨_, _, _, _, _, _, _, _, _, rfl, _, _⟩ := F.ex
    exact .of_eq rfl
